import PyProof.Rows.All
import Wide.All
import OpenK.AllK
import Wide.FinOn
import HandS.Dict
import KE.KeyNested
import HandS.ForMost
import HandS.IsInst
import HandS.Conv
import HandS.Zip
import HandS.Flow
import HandS.Nested
import HandS.TupAny
import HandS.Style
import HandS.TupSets
import HandS.Deep
import HandS.SortInts
import HandS.TryOnly
import HandS.Sort
import HandS.CallRecv
import KE.KDictList
import KE.DataMinMax
import OpenK.KOps
import HandS.Hot
import HandS.ExcCtx
import HandS.ExcIs
import HandS.WordsExc
import HandS.RaiseMore
import HandS.SlotsOwn
import HandS.EndOwn
import PySem.Challenge.RW_warmcold_k13_whole_a_search_deed_by_deed
set_option Elab.async false
set_option linter.all false
set_option maxRecDepth 100000
set_option maxHeartbeats 4000000
/-! a dict whose keys are tuples of a pair and two whole numbers, and whose values are bools. -/
namespace Wm
open PySem L2
abbrev Spot := (Int × Int) × Int × Int
def spotK (k : Spot) : NestedKey := .tup [.tup [.num k.1.1, .num k.1.2], .num k.2.1, .num k.2.2]
theorem spotK_inj {j k : Spot} (h : spotK j = spotK k) : j = k := by
  obtain ⟨⟨a, b⟩, c, d⟩ := j
  obtain ⟨⟨a', b'⟩, c', d'⟩ := k
  unfold spotK at h
  injection h with h
  injection h with h1 h
  injection h1 with h1
  injection h1 with h2 h1
  injection h2 with h2
  injection h1 with h1 _
  injection h1 with h1
  injection h with h3 h
  injection h3 with h3
  injection h with h4 _
  injection h4 with h4
  dsimp only at h1 h2 h3 h4
  rw [h1, h2, h3, h4]
def spotH (k : Spot) : Int := reduceHash (Builtin.Tuple.tupleHashOf [reduceHash (Builtin.Tuple.tupleHashOf [hashInt k.1.1, hashInt k.1.2]), hashInt k.2.1, hashInt k.2.2])
theorem spotH_eq (w : World) (k : Spot) : (spotK k).hash w = spotH k := rfl
abbrev NX := List (Spot × Addr × Bool)
def nX (xs : NX) : List (NestedKey × Addr × Value) := xs.map fun x => (spotK x.1, x.2.1, .bool x.2.2)
/-- what is true of the dict's one object -/
def φN (d : Addr) (xs : NX) (h : Heap) : Prop := xs.length ≤ sizeLine ∧ (d == sysModules) = false ∧ (xs.map (·.1)).Nodup ∧
  ∃ o es ep, h.get? d = some o ∧ o.ExactDict ∧ o.data = .dict es ep ∧ es.toList = xs.map fun x => (⟨spotH x.1, .ref x.2.1, .bool x.2.2⟩ : DictEntry)
def SpotAt (H : Hp) (k : Spot) (b : Addr) : Prop := ∃ c, H b = some (.tup [.ref c, .int k.2.1, .int k.2.2]) ∧ H c = some (.tup [.int k.1.1, .int k.1.2])
theorem SpotAt.mono {H H' : Hp} {k : Spot} {b : Addr} (s : ∀ a xs, H a = some (.tup xs) → H' a = some (.tup xs)) (h : SpotAt H k b) : SpotAt H' k b := let ⟨c, h1, h2⟩ := h; ⟨c, s _ _ h1, s _ _ h2⟩
def atN (xs : NX) (k : Spot) : Option Bool := (xs.find? fun x => decide (x.1 = k)).map (·.2.2)
def putN (xs : NX) (k : Spot) (b : Addr) (v : Bool) : NX := if (xs.any fun x => decide (x.1 = k)) = true then xs.map (fun x => if x.1 = k then (x.1, x.2.1, v) else x) else xs ++ [(k, b, v)]
theorem atN_nX (k : Spot) : ∀ xs : NX, (atKey (nX xs) (spotK k)).map (·.2) = (atN xs k).map Value.bool
  | [] => rfl
  | x :: xs => by
    have ih := atN_nX k xs
    by_cases e : x.1 = k
    · simp [atKey, atN, nX, List.find?_cons, e]
    · have e' : ¬ spotK x.1 = spotK k := fun z => e (spotK_inj z)
      simpa [atKey, atN, nX, List.find?_cons, e, e'] using ih
theorem any_nX (k : Spot) : ∀ xs : NX, (atKey (nX xs) (spotK k)).isSome = xs.any fun x => decide (x.1 = k)
  | [] => rfl
  | x :: xs => by
    have ih := any_nX k xs
    by_cases e : x.1 = k
    · simp [atKey, nX, List.find?_cons, e]
    · have e' : ¬ spotK x.1 = spotK k := fun z => e (spotK_inj z)
      simpa [atKey, nX, List.find?_cons, e, e'] using ih
theorem storedH_nX (xs : NX) (k : Spot) (b : Addr) (v : Bool) : storedH (nX xs) (spotK k) b (.bool v) = nX (putN xs k b v) := by
  unfold storedH putN
  rw [any_nX]
  split
  · unfold nX
    rw [List.map_map, List.map_map]
    refine List.map_congr_left fun x _ => ?_
    show putAt (spotK k) (Value.bool v) (spotK x.1, x.2.1, Value.bool x.2.2) = _
    by_cases e : x.1 = k
    · have e' : spotK x.1 = spotK k := by rw [e]
      simp [putAt, e, e']
    · have e' : ¬ spotK x.1 = spotK k := fun z => e (spotK_inj z)
      simp [putAt, e, e']
  · simp [nX]
theorem length_putN (xs : NX) (k : Spot) (b : Addr) (v : Bool) : (putN xs k b v).length ≤ xs.length + 1 := by
  unfold putN
  split
  · rw [List.length_map]; omega
  · rw [List.length_append, List.length_cons, List.length_nil]; omega
theorem putN_mem {xs : NX} {k : Spot} {b : Addr} {v : Bool} {x : Spot × Addr × Bool} (h : x ∈ putN xs k b v) : (∃ y ∈ xs, x.1 = y.1 ∧ x.2.1 = y.2.1) ∨ x = (k, b, v) := by
  unfold putN at h
  split at h
  · obtain ⟨y, hy, rfl⟩ := List.mem_map.mp h
    refine .inl ⟨y, hy, ?_⟩
    split <;> exact ⟨rfl, rfl⟩
  · rcases List.mem_append.mp h with z | z
    · exact .inl ⟨x, z, rfl, rfl⟩
    · exact .inr (List.mem_singleton.mp z)
section
variable {P : Program} {w : World} {H : Hp} {h : Heap} {a b d : Addr} {k : Spot} {xs : NX}
theorem SpotAt.is (ok : HOk P w H h) (s : SpotAt H k b) : (nestedKind P w).is h (spotK k) b := by
  obtain ⟨c, h1, h2⟩ := s
  obtain ⟨_, its, r, o, g1, g2, n, g3⟩ := (show ObjOk P w H h b _ from ok b _ h1)
  obtain ⟨_, its2, r2, o2, g4, g5, n2, g6⟩ := (show ObjOk P w H h c _ from ok c _ h2)
  refine ⟨?_, by simp [spotK, NestedKey.depth, NestedKey.depthAll]⟩
  have r' : Vals [.ref c, .int k.2.1, .int k.2.2] its := r
  have r2' : Vals [.int k.1.1, .int k.1.2] its2 := r2
  cases r' with
  | cons e1 r' =>
    cases r' with
    | cons e2 r' =>
      cases r' with
      | cons e3 r' =>
        cases r'
        cases r2' with
        | cons e4 r2' =>
          cases r2' with
          | cons e5 r2' =>
            cases r2'
            obtain ⟨t2, q2⟩ := (show ∃ t, _ = Value.int _ t from e2)
            obtain ⟨t3, q3⟩ := (show ∃ t, _ = Value.int _ t from e3)
            obtain ⟨t4, q4⟩ := (show ∃ t, _ = Value.int _ t from e4)
            obtain ⟨t5, q5⟩ := (show ∃ t, _ = Value.int _ t from e5)
            have q1 := (show _ = Value.ref c from e1)
            subst q1 q2 q3 q4 q5
            refine .tup g1 g2 g3 ?_
            refine .cons (.tup g4 g5 g6 ?_) (.cons (.int _ _) (.cons (.int _ _) .nil))
            exact .cons (.int _ _) (.cons (.int _ _) .nil)
/-- the dict, as the model's rules ask for it -/
theorem φN_of (ok : HOk P w H h) (p : φN d xs h) (hk : ∀ x ∈ xs, SpotAt H x.1 x.2.1) : h.DictOfH (nestedKind P w) d (nX xs) := by
  obtain ⟨_, _, nd, o, es, ep, h1, h2, h3, h4⟩ := p
  refine ⟨o, es, ep, h1, h2, h3, ?_, fun x hx => ?_, ?_⟩
  · rw [h4]
    unfold nX
    rw [List.map_map]
    rfl
  · obtain ⟨y, hy, rfl⟩ := List.mem_map.mp hx
    exact (hk y hy).is ok
  · unfold nX
    rw [List.map_map]
    have e : (xs.map ((fun x : NestedKey × Addr × Value => x.1) ∘ fun x => (spotK x.1, x.2.1, Value.bool x.2.2))) = (xs.map (·.1)).map spotK := by rw [List.map_map]; rfl
    rw [e]
    exact List.Pairwise.map spotK (fun a b hab z => hab (spotK_inj z)) nd
theorem φN_at {x : NX} (p : ∃ xs', h.DictOfH (nestedKind P w) d xs' ∧ xs' = nX x) (hl : x.length ≤ sizeLine) (hd : (d == sysModules) = false) : φN d x h := by
  obtain ⟨_, ⟨o, es, ep, h1, h2, h3, h4, _, h5⟩, rfl⟩ := p
  refine ⟨hl, hd, ?_, o, es, ep, h1, h2, h3, ?_⟩
  · unfold nX at h5
    rw [List.map_map] at h5
    have e : (x.map ((fun x : NestedKey × Addr × Value => x.1) ∘ fun x => (spotK x.1, x.2.1, Value.bool x.2.2))) = (x.map (·.1)).map spotK := by rw [List.map_map]; rfl
    rw [e] at h5
    exact List.Pairwise.of_map spotK (fun a b hab z => hab (by rw [z])) h5
  · rw [h4]
    unfold nX
    rw [List.map_map]
    rfl
theorem φN_ext (p : φN d xs h) : ObjOk P w H h d (.ext (φN d xs)) := by
  refine ⟨p, ?_, fun h1 h2 q k => ?_⟩
  · obtain ⟨_, _, _, o, _, _, h1, _⟩ := p
    exact ⟨o, h1⟩
  · obtain ⟨z, y, nd, o, es, ep, g1, g⟩ := q
    exact ⟨z, y, nd, o, es, ep, k o g1, g⟩
end
/-- what the dict at a holds at the key y -/
def NGet (H : Hp) (a : Addr) (y : V) (r : Option Bool) : Prop := ∃ xs k b, H a = some (.ext (φN a xs)) ∧ (∀ x ∈ xs, SpotAt H x.1 x.2.1) ∧ y = .ref b ∧ SpotAt H k b ∧ r = atN xs k
/-- the heap behind a[y] = v -/
def NPut (H : Hp) (a : Addr) (y v : V) (H' : Hp) : Prop := ∃ xs k b c, H a = some (.ext (φN a xs)) ∧ (∀ x ∈ xs, SpotAt H x.1 x.2.1) ∧ y = .ref b ∧ SpotAt H k b ∧ v = .bl c ∧ xs.length < sizeLine ∧ H' = upd H a (.ext (φN a (putN xs k b c)))
section
variable {X : Cx} {pins : List (Addr × Obj)} {σ : St} {H : Hp} {s : Shared} {a : Addr} {y v : V} {u r : Value} {o : Option Bool} {A : Around} {E : Value → Shared → Prop}
theorem n_getItem {c : Bool} {Q : Value → Shared → Prop} (hu : A.units + 9 < cLine) (I : Inv X pins σ H s) (g : NGet H a y (some c)) (ry : RelV y u) (h : ∀ w' s', Inv X pins σ H s' → RelV (.bl c) w' → Q w' s') :
    wpAny (model X.prog X.w) A (getItem (.ref a) u) Q E s := by
  obtain ⟨xs, k, b, e, hk, ey, eb, l⟩ := g
  subst ey
  cases (show u = Value.ref b from ry)
  have p : φN a xs s.heap := (show ObjOk X.prog X.w H s.heap a _ from I.hok a _ e).1
  have hp := atN_nX k xs
  rw [← l] at hp
  obtain ⟨q, hq, hq2⟩ := Option.map_eq_some_iff.mp hp
  refine wpAny_getItem_heap (knd := nestedKind X.prog X.w) (show A.in1.units + 8 < cLine by show A.units + 1 + 8 < cLine; omega) (eb.is I.hok) (φN_of I.hok p hk) hq ?_
  rw [hq2]
  exact h _ _ (I.tok _) rfl
theorem n_notIn {Q : Value → Shared → Prop} (hu : A.units + 9 < cLine) (I : Inv X pins σ H s) (g : NGet H a y o) (ry : RelV y u) (h : ∀ s', Inv X pins σ H s' → Q (.bool (!o.isSome)) s') :
    wpAny (model X.prog X.w) A (compareOp .NotIn u (.ref a)) Q E s := by
  obtain ⟨xs, k, b, e, hk, ey, eb, l⟩ := g
  subst ey
  cases (show u = Value.ref b from ry)
  have p : φN a xs s.heap := (show ObjOk X.prog X.w H s.heap a _ from I.hok a _ e).1
  refine PyProof.Rows.wpAny_notIn_heap (knd := nestedKind X.prog X.w) (show A.in1.units + 8 < cLine by show A.units + 1 + 8 < cLine; omega) (eb.is I.hok) p.2.1 (φN_of I.hok p hk) ?_
  have q : (atKey (nX xs) (spotK k)).isSome = o.isSome := by
    have := congrArg Option.isSome (atN_nX k xs)
    rw [Option.isSome_map, Option.isSome_map] at this
    rw [this, l]
  rw [q]
  exact h _ (I.tok _)
theorem n_setItem {H' : Hp} {Q : Unit → Shared → Prop} (hu : A.units + 9 < cLine) (I : Inv X pins σ H s) (g : NPut H a y v H') (ry : RelV y u) (rv : RelV v r) (h : ∀ s', Inv X pins σ H' s' → Q () s') :
    wpAny (model X.prog X.w) A (setItem (.ref a) u r) Q E s := by
  obtain ⟨xs, k, b, c, e, hk, ey, eb, ev, l, eH⟩ := g
  subst ey eH ev
  cases (show u = Value.ref b from ry)
  cases (show r = Value.bool c from rv)
  have p : φN a xs s.heap := (show ObjOk X.prog X.w H s.heap a _ from I.hok a _ e).1
  have hl : (putN xs k b c).length ≤ sizeLine := by have := length_putN xs k b c; omega
  refine wpAny_setItem_heap (hsz := by unfold nX; rw [List.length_map]; omega) (knd := nestedKind X.prog X.w) (show A.in1.units + 8 < cLine by show A.units + 1 + 8 < cLine; omega) (eb.is I.hok) (φN_of I.hok p hk) fun h' dd' hs => h _ ?_
  have pn : φN a (putN xs k b c) h' := φN_at ⟨_, dd', storedH_nX xs k b c⟩ hl p.2.1
  refine d_write I (by rw [e]; exact True.intro) hs ?_ (φN_ext pn)
  obtain ⟨_, _, _, q, _, _, hq, _⟩ := pn
  exact ⟨q, hq⟩
end
theorem nget_typeIs {X : Cx} {pins : List (Addr × Obj)} {σ : St} {H : Hp} {s : Shared} {a : Addr} {y : V} {o : Option Bool} (I : Inv X pins σ H s) (g : NGet H a y o) : s.TypeIs (.ref a) "dict" := by
  obtain ⟨xs, k, b, e, hk, _⟩ := g
  have p : φN a xs s.heap := (show ObjOk X.prog X.w H s.heap a _ from I.hok a _ e).1
  exact (φN_of I.hok p hk).typeIs
/-- d[y], y not in d, d[y] = v, {} -/
def tNGet (td ty : TE) : TE := fun σ H Q => td σ H fun x H1 => ty σ H1 fun y H2 => ∃ a v, x = .ref a ∧ NGet H2 a y (some v) ∧ Q (.bl v) H2
def tNNotIn (ty td : TE) : TE := fun σ H Q => ty σ H fun y H1 => td σ H1 fun x H2 => ∃ a o, x = .ref a ∧ NGet H2 a y o ∧ Q (.bl (!o.isSome)) H2
def sNPut (td ty tv : TE) : TS := fun D σ H => tv σ H fun v H1 => td σ H1 fun x H2 => ty σ H2 fun y H3 => ∃ a H4, x = .ref a ∧ NPut H3 a y v H4 ∧ D.nx σ H4
def tDNewN : TE := fun _ H Q => ∀ p, H p = none → Q (.ref p) (upd H p (.ext (φN p [])))
section
variable {X : Cx} {o i e value : Expr} {pos pos' tpos : Pos} {td ty tv : TE}
theorem pe_nget (hu : X.A.units + 9 < cLine) (ho : PE X o td) (hi : PE X i ty) (hs : NoSl i) : PE X (.Subscript o i pos) (tNGet td ty) := by
  refine ⟨fun pins s σ H Q I h => ?_⟩
  refine subD_of PySem.F.slot_dict_getitem.lookup hs (thn (ho.run pins s σ H _ I h) fun u s1 ⟨x, H1, I1, rx, q1⟩ => thn (hi.run pins s1 σ H1 _ I1 q1) fun iv s2 ⟨y, H2, I2, ry, a, v, ex, g, q2⟩ => ?_)
  subst ex
  obtain rfl : u = Value.ref a := rx
  exact ⟨nget_typeIs I2 g, n_getItem hu I2 g ry fun w' s3 I3 rw' => ⟨.bl v, H2, I3, rw', q2⟩⟩
theorem pc_nnotin (hu : X.A.units + 9 < cLine) (hi : PE X i ty) (ho : PE X o td) : PC X .NotIn i o (tNNotIn ty td) := by
  refine ⟨fun pins s σ H Q I h => ?_⟩
  refine thn (hi.run pins s σ H _ I h) fun iv s1 ⟨y, H1, I1, ry, q1⟩ => thn (ho.run pins s1 σ H1 _ I1 q1) fun u s2 ⟨x, H2, I2, rx, a, ov, ex, g, q2⟩ => ?_
  subst ex
  obtain rfl : u = Value.ref a := rx
  exact n_notIn hu I2 g ry fun s3 I3 => ⟨.bl (!ov.isSome), H2, I3, rfl, q2⟩
theorem ps_nput (hu : X.A.units + 9 < cLine) (ho : PE X o td) (hi : PE X i ty) (hv : PE X value tv) (hs : swapsWith value (some (.Subscript o i pos')) pos.line X.env = pure false) :
    PS X (.Assign [.Subscript o i pos'] value pos) (sNPut td ty tv) := by
  refine ⟨fun pins s σ H D I h => ?_⟩
  refine wpAny_Assign_Subscript (thn (hv.run pins s σ H _ I h) fun r s1 ⟨v, H1, I1, rv, q1⟩ => thn (ho.run pins s1 σ H1 _ I1 q1) fun u s2 ⟨x, H2, I2, rx, q2⟩ => thn (hi.run pins s2 σ H2 _ I2 q2) fun iv s3 ⟨y, H3, I3, ry, a, H4, ex, g, q3⟩ => ?_) hs
  subst ex
  obtain rfl : u = Value.ref a := rx
  exact n_setItem hu I3 g ry rv fun s4 I4 => ⟨σ, H4, I4, q3⟩
theorem pe_dnewN : PE X (.Dict [] [] pos) tDNewN := ⟨fun pins s σ H Q I h => by
  have pn : φN s.heap.objs.size [] (s.heap.push { cls := .type "dict", data := .dict #[] }) :=
    ⟨Nat.zero_le _, beq_eq_false_iff_ne.mpr (Ne.symm (Nat.ne_of_lt I.big)), List.nodup_nil, _, #[], 0, Heap.get?_push_size _ rfl, ⟨rfl, rfl, rfl⟩, rfl, rfl⟩
  exact wpAny_Dict_empty ⟨.ref s.heap.objs.size, _, I.laid (a := s.heap.objs.size) (o := .ext (φN s.heap.objs.size [])) (t' := s.toks) (fun _ _ q => Heap.get?_push_of_some _ q) (Nat.le_refl _) (φN_ext pn), rfl, h _ (I.hok.fresh (Nat.le_refl _))⟩⟩
end
end Wm

/-! the data layer: what stands in the slots and in the objects told as data; expressions and statements over that. -/
namespace Wm
open PySem L2
/-! ### heaps with some objects out of sight -/
def hid (L : List Addr) (H : Hp) : Hp := fun a => if a ∈ L then none else H a
theorem hid_in {L : List Addr} {H : Hp} {a : Addr} (h : a ∈ L) : hid L H a = none := by unfold hid; rw [if_pos h]
theorem hid_out {L : List Addr} {H : Hp} {a : Addr} (h : a ∉ L) : hid L H a = H a := by unfold hid; rw [if_neg h]
theorem hid_some {L : List Addr} {H : Hp} {a : Addr} {o : HO} (h : hid L H a = some o) : a ∉ L ∧ H a = some o := by
  by_cases e : a ∈ L
  · rw [hid_in e] at h; cases h
  · rw [hid_out e] at h; exact ⟨e, h⟩
theorem hid_le (L : List Addr) (H : Hp) : Same (hid L H) H := fun _ _ h => (hid_some h).2
theorem hid_nil (H : Hp) : hid [] H = H := by funext a; exact hid_out (by simp)
theorem hid_mono {L : List Addr} {H H' : Hp} (s : Same H H') : Same (hid L H) (hid L H') := fun a o h => by
  obtain ⟨n, e⟩ := hid_some h
  rw [hid_out n]; exact s a o e
theorem hid_sub {L L' : List Addr} {H : Hp} (s : ∀ a, a ∈ L → a ∈ L') : Same (hid L' H) (hid L H) := fun a o h => by
  obtain ⟨n, e⟩ := hid_some h
  rw [hid_out fun z => n (s a z)]; exact e
theorem hid_upd {L : List Addr} {H : Hp} {p : Addr} {o : HO} (h : p ∈ L) : hid L (upd H p o) = hid L H := by
  funext a
  by_cases e : a ∈ L
  · rw [hid_in e, hid_in e]
  · rw [hid_out e, hid_out e, upd_ne (fun z : a = p => e (by rw [z]; exact h))]
theorem same_new {H : Hp} {p : Addr} {o : HO} (h : H p = none) : Same H (upd H p o) := fun b x e => by
  rw [upd_ne (ne_of_none e h)]; exact e
/-- all but what stands at the places L stays -/
theorem same_hid_upd {H : Hp} {p : Addr} {o : HO} {L : List Addr} (h : p ∈ L) : Same (hid L H) (upd H p o) := fun b x e => by
  obtain ⟨n, e⟩ := hid_some e
  rw [upd_ne (fun z : b = p => n (by rw [z]; exact h))]; exact e
/-! ### data -/
/-- the law's own script, as data: a list that may be one of the module's own objects -/
abbrev dScr (ns : List Int) : PyData := .dict (ns.map fun i => (.int i, .none))
mutual
/-- v, in the heap H, is the data d: lists stand tracked or locked, tuples also written -/
inductive Dp (K : PySem.W.Frag) (H : Hp) : V → PyData → Prop
  | non : Dp K H .non .none
  | bl (b : Bool) : Dp K H (.bl b) (.bool b)
  | int (i : Int) : Dp K H (.int i) (.int i)
  | str (x : Str) : Dp K H (.str x) (.str x)
  | lst {a : Addr} {xs : List V} {ds : List PyData} : Rd H a (.lst xs) → DpAll K H xs ds → Dp K H (.ref a) (.list ds)
  | tup {a : Addr} {xs : List V} {ds : List PyData} : H a = some (.tup xs) → DpAll K H xs ds → Dp K H (.ref a) (.tuple ds)
  | scr {a : Addr} {ns : List Int} : SqL K H a (ns.map V.int) → Dp K H (.ref a) (dScr ns)
inductive DpAll (K : PySem.W.Frag) (H : Hp) : List V → List PyData → Prop
  | nil : DpAll K H [] []
  | cons {v : V} {vs : List V} {d : PyData} {ds : List PyData} : Dp K H v d → DpAll K H vs ds → DpAll K H (v :: vs) (d :: ds)
end
theorem Rd.mono {H H' : Hp} {a : Addr} {o : HO} (s : Same H H') (h : Rd H a o) : Rd H' a o := h.imp (s _ _) fun ⟨o, h⟩ => ⟨o, s _ _ h⟩
section
variable {K : PySem.W.Frag} {H H' : Hp}
mutual
theorem Dp.lo : ∀ {v : V} {d : PyData}, Dp K H v d → d.canLay0 = true → L2.Dp K H v d
  | _, _, .non, _ => .non
  | _, _, .bl b, _ => .bl b
  | _, _, .int i, _ => .int i
  | _, _, .str x, _ => .str x
  | _, _, .lst h a, c => .lst (.inl h) (DpAll.lo a (by simpa [PyData.canLay0] using c))
  | _, _, .tup h a, c => .tup (.inl (.inl h)) (DpAll.lo a (by simpa [PyData.canLay0] using c))
  | _, _, .scr h, c => by simp [PyData.canLay0] at c
theorem DpAll.lo : ∀ {vs : List V} {ds : List PyData}, DpAll K H vs ds → PyData.canLayAll0 ds = true → L2.DpAll K H vs ds
  | _, _, .nil, _ => .nil
  | _, _, .cons h a, c => by
    simp only [PyData.canLayAll0, Bool.and_eq_true] at c
    exact .cons (Dp.lo h c.1) (DpAll.lo a c.2)
end
mutual
theorem Dp.mono (s : Same H H') : ∀ {v : V} {d : PyData}, Dp K H v d → Dp K H' v d
  | _, _, .non => .non
  | _, _, .bl b => .bl b
  | _, _, .int i => .int i
  | _, _, .str x => .str x
  | _, _, .lst h a => .lst (Rd.mono s h) (DpAll.mono s a)
  | _, _, .tup h a => .tup (s _ _ h) (DpAll.mono s a)
  | _, _, .scr h => .scr (s.seq h)
theorem DpAll.mono (s : Same H H') : ∀ {vs : List V} {ds : List PyData}, DpAll K H vs ds → DpAll K H' vs ds
  | _, _, .nil => .nil
  | _, _, .cons h a => .cons (Dp.mono s h) (DpAll.mono s a)
end
theorem DpAll.length : ∀ {vs : List V} {ds : List PyData}, DpAll K H vs ds → vs.length = ds.length
  | _, _, .nil => rfl
  | _, _, .cons _ a => by rw [List.length_cons, List.length_cons, DpAll.length a]
theorem DpAll.append : ∀ {vs us : List V} {ds es : List PyData}, DpAll K H vs ds → DpAll K H us es → DpAll K H (vs ++ us) (ds ++ es)
  | _, _, _, _, .nil, b => b
  | _, _, _, _, .cons h a, b => .cons h (DpAll.append a b)
theorem DpAll.get : ∀ {vs : List V} {ds : List PyData} {i : Nat} {d : PyData}, DpAll K H vs ds → ds[i]? = some d → ∃ v, vs[i]? = some v ∧ Dp K H v d
  | _, _, _, _, .nil, e => by simp at e
  | _, _, 0, _, .cons h _, e => by simp at e; subst e; exact ⟨_, rfl, h⟩
  | _, _, i + 1, d, .cons _ a, e => by
    obtain ⟨v, h1, h2⟩ := DpAll.get (i := i) (d := d) a (by simpa using e)
    exact ⟨v, by simpa using h1, h2⟩
theorem DpAll.getV : ∀ {vs : List V} {ds : List PyData} {i : Nat} {v : V}, DpAll K H vs ds → vs[i]? = some v → ∃ d, ds[i]? = some d ∧ Dp K H v d
  | _, _, _, _, .nil, e => by simp at e
  | _, _, 0, _, .cons h _, e => by simp at e; subst e; exact ⟨_, rfl, h⟩
  | _, _, i + 1, d, .cons _ a, e => by
    obtain ⟨v, h1, h2⟩ := DpAll.getV (i := i) (v := d) a (by simpa using e)
    exact ⟨v, by simpa using h1, h2⟩
theorem DpAll.take : ∀ {vs : List V} {ds : List PyData} (n : Nat), DpAll K H vs ds → DpAll K H (vs.take n) (ds.take n)
  | _, _, 0, _ => .nil
  | _, _, _ + 1, .nil => .nil
  | _, _, n + 1, .cons h a => .cons h (DpAll.take n a)
theorem DpAll.drop : ∀ {vs : List V} {ds : List PyData} (n : Nat), DpAll K H vs ds → DpAll K H (vs.drop n) (ds.drop n)
  | _, _, 0, r => r
  | _, _, _ + 1, .nil => .nil
  | _, _, n + 1, .cons _ a => DpAll.drop n a
theorem DpAll.set {v : V} {d : PyData} (h : Dp K H v d) : ∀ {vs : List V} {ds : List PyData} (i : Nat), DpAll K H vs ds → DpAll K H (vs.set i v) (ds.set i d)
  | _, _, _, .nil => .nil
  | _, _, 0, .cons _ a => .cons h a
  | _, _, i + 1, .cons q a => .cons q (DpAll.set h i a)
theorem DpAll.reverse {vs : List V} {ds : List PyData} (h : DpAll K H vs ds) : DpAll K H vs.reverse ds.reverse := by
  induction vs generalizing ds with
  | nil => cases h; exact .nil
  | cons v vs ih =>
    cases h with
    | cons h a => rw [List.reverse_cons, List.reverse_cons]; exact DpAll.append (ih a) (.cons h .nil)
theorem dp_ints : ∀ {ns : List Int} {vs : List V}, DpAll K H vs (ns.map PyData.int) → vs = ns.map V.int
  | [], _, h => by cases h; rfl
  | n :: ns, _, h => by
    cases h with
    | cons h a => cases h; rw [List.map_cons, dp_ints a]
theorem dp_strs : ∀ {ns : List Str} {vs : List V}, DpAll K H vs (ns.map PyData.str) → vs = ns.map V.str
  | [], _, h => by cases h; rfl
  | n :: ns, _, h => by
    cases h with
    | cons h a => cases h; rw [List.map_cons, dp_strs a]
theorem dp_bls : ∀ {ns : List Bool} {vs : List V}, DpAll K H vs (ns.map PyData.bool) → vs = ns.map V.bl
  | [], _, h => by cases h; rfl
  | n :: ns, _, h => by
    cases h with
    | cons h a => cases h; rw [List.map_cons, dp_bls a]
theorem ints_dp : ∀ {ns : List Int}, DpAll K H (ns.map V.int) (ns.map PyData.int)
  | [] => .nil
  | _ :: _ => .cons (.int _) ints_dp
theorem strs_dp : ∀ {ns : List Str}, DpAll K H (ns.map V.str) (ns.map PyData.str)
  | [] => .nil
  | _ :: _ => .cons (.str _) strs_dp
theorem bls_dp : ∀ {ns : List Bool}, DpAll K H (ns.map V.bl) (ns.map PyData.bool)
  | [] => .nil
  | _ :: _ => .cons (.bl _) bls_dp
end
/-! ### slots, objects, states -/
/-- what is told of a slot: nothing, its very value, its data -/
inductive Sl where
  | un | loc (v : V) | dat (d : PyData) | pr (φ : V → Hp → Prop)
/-- what is told of an object that changes: a list of data, an instance, a dict -/
inductive MO where
  | lst (ds : List PyData) | ins (C : Addr) (fs : List (Str × Sl)) | dK (kvs : List (Key × PyData)) | dT (kvs : List (List Key × PyData)) | dP (Φ : List (List Key × PyData) → Prop) | dN (kvs : List (Spot × PyData)) | dQ (Φ : List (Spot × PyData) → Prop) | tab (nm : Nat → Nat → Str)
abbrev Ms := List (Addr × MO)
abbrev ad (M : Ms) : List Addr := M.map (·.1)
def SlOk (K : PySem.W.Frag) (H : Hp) (v : V) : Sl → Prop
  | .un => True
  | .loc w => v = w
  | .dat d => Dp K H v d
  | .pr φ => ∀ H', Same H H' → φ v H'
def SlO (K : PySem.W.Frag) (H : Hp) (o : Option V) (s : Sl) : Prop := s = .un ∨ ∃ v, o = some v ∧ SlOk K H v s
/-- the entries of a dict with spots as keys, told as data -/
abbrev NP (H0 : Hp) : NX → List (Spot × PyData) → Prop := Paired fun x f => x.1 = f.1 ∧ f.2 = .bool x.2.2 ∧ SpotAt H0 x.1 x.2.1
/-- H0 is what the data may lie in -/
def MOk (K : PySem.W.Frag) (H0 H : Hp) (p : Addr) : MO → Prop
  | .lst ds => ∃ vs, H p = some (.lst vs) ∧ DpAll K H0 vs ds
  | .ins C fs => ∃ dx gs, H p = some (.ins C dx gs) ∧ Paired (fun (g : Str × V) (f : Str × Sl) => g.1 = f.1 ∧ SlOk K H0 g.2 f.2) gs fs
  | .dK kvs => ∃ ks, H p = some (.dK ks) ∧ Paired (fun (g : Key × V) (f : Key × PyData) => g.1 = f.1 ∧ Dp K H0 g.2 f.2) ks kvs
  | .dT kvs => ∃ ks, H p = some (.dT ks) ∧ Paired (fun (g : List Key × V) (f : List Key × PyData) => g.1 = f.1 ∧ Dp K H0 g.2 f.2) ks kvs
  | .dP Φ => ∃ ks kvs, Φ kvs ∧ H p = some (.dT ks) ∧ Paired (fun (g : List Key × V) (f : List Key × PyData) => g.1 = f.1 ∧ Dp K H0 g.2 f.2) ks kvs
  | .dN kvs => ∃ xs, H p = some (.ext (φN p xs)) ∧ NP H0 xs kvs
  | .dQ Φ => ∃ xs kvs, Φ kvs ∧ H p = some (.ext (φN p xs)) ∧ NP H0 xs kvs
  | .tab nm => ∃ ps : Array Value, H p = some (.tbl ps) ∧ TriplesOk ps.toList ∧ ∀ pos cv, codeAmong pos ps.toList = some cv → ∃ c, cv = .ref c ∧ H0 c = some (LamX.CodeO c (nm pos.line pos.col))
/-- the state: F what stood ahead and stays, L what is out of sight besides the changing objects M -/
structure Ok (K : PySem.W.Frag) (F : Hp) (L : List Addr) (σ : L2.St) (H : Hp) (ρ : List Sl) (M : Ms) : Prop where
  sl : Paired (SlO K (hid (L ++ ad M) H)) σ ρ
  ob : ∀ x ∈ M, MOk K (hid (L ++ ad M) H) H x.1 x.2
  nd : (ad M).Nodup
  fr : Same F H
  fn : ∀ p ∈ ad M, F p = none
  lv : ∀ p ∈ L, H p ≠ none
section
variable {K : PySem.W.Frag} {F H H' H0 H1 : Hp} {L : List Addr} {σ : L2.St} {ρ : List Sl} {M M' : Ms}
theorem SlOk.mono {v : V} {s : Sl} (e : Same H H') (h : SlOk K H v s) : SlOk K H' v s := by
  cases s with
  | un => trivial
  | loc w => exact h
  | dat d => exact Dp.mono e h
  | pr φ => exact fun H2 s2 => h H2 (e.trans s2)
theorem SlO.mono {v : Option V} {s : Sl} (e : Same H H') (h : SlO K H v s) : SlO K H' v s := h.imp id fun ⟨v, q, r⟩ => ⟨v, q, r.mono e⟩
theorem MOk.mono {p : Addr} {o : MO} (e0 : Same H0 H1) (e : H' p = H p) (h : MOk K H0 H p o) : MOk K H1 H' p o := by
  cases o with
  | lst ds => obtain ⟨vs, h1, h2⟩ := h; exact ⟨vs, e.trans h1, DpAll.mono e0 h2⟩
  | ins C fs => obtain ⟨dx, gs, h1, h2⟩ := h; exact ⟨dx, gs, e.trans h1, Paired.mapP h2 fun _ _ q => ⟨q.1, q.2.mono e0⟩⟩
  | dK kvs => obtain ⟨ks, h1, h2⟩ := h; exact ⟨ks, e.trans h1, Paired.mapP h2 fun _ _ q => ⟨q.1, Dp.mono e0 q.2⟩⟩
  | dT kvs => obtain ⟨ks, h1, h2⟩ := h; exact ⟨ks, e.trans h1, Paired.mapP h2 fun _ _ q => ⟨q.1, Dp.mono e0 q.2⟩⟩
  | dP Φ => obtain ⟨ks, kvs, h0, h1, h2⟩ := h; exact ⟨ks, kvs, h0, e.trans h1, Paired.mapP h2 fun _ _ q => ⟨q.1, Dp.mono e0 q.2⟩⟩
  | dN kvs => obtain ⟨xs, h1, h2⟩ := h; exact ⟨xs, e.trans h1, Paired.mapP h2 fun _ _ q => ⟨q.1, q.2.1, q.2.2.mono fun _ _ z => e0 _ _ z⟩⟩
  | dQ Φ => obtain ⟨xs, kvs, h0, h1, h2⟩ := h; exact ⟨xs, kvs, h0, e.trans h1, Paired.mapP h2 fun _ _ q => ⟨q.1, q.2.1, q.2.2.mono fun _ _ z => e0 _ _ z⟩⟩
  | tab nm => obtain ⟨ps, h1, h2, h3⟩ := h; exact ⟨ps, e.trans h1, h2, fun pos cv z => let ⟨c, e1, e2⟩ := h3 pos cv z; ⟨c, e1, e0 _ _ e2⟩⟩
theorem MOk.there {p : Addr} {o : MO} (h : MOk K H0 H p o) : ∃ x, H p = some x := by
  cases o with
  | lst ds => obtain ⟨vs, h1, _⟩ := h; exact ⟨_, h1⟩
  | ins C fs => obtain ⟨dx, gs, h1, _⟩ := h; exact ⟨_, h1⟩
  | dK kvs => obtain ⟨ks, h1, _⟩ := h; exact ⟨_, h1⟩
  | dT kvs => obtain ⟨ks, h1, _⟩ := h; exact ⟨_, h1⟩
  | dP Φ => obtain ⟨ks, kvs, _, h1, _⟩ := h; exact ⟨_, h1⟩
  | dN kvs => obtain ⟨xs, h1, _⟩ := h; exact ⟨_, h1⟩
  | dQ Φ => obtain ⟨xs, kvs, _, h1, _⟩ := h; exact ⟨_, h1⟩
  | tab nm => obtain ⟨ps, h1, _⟩ := h; exact ⟨_, h1⟩
theorem Ok.there (o : Ok K F L σ H ρ M) {p : Addr} (h : p ∈ L ++ ad M) : H p ≠ none := by
  rcases List.mem_append.mp h with h | h
  · exact o.lv p h
  · obtain ⟨x, hx, rfl⟩ := List.mem_map.mp h
    obtain ⟨y, e⟩ := (o.ob x hx).there
    rw [e]; exact fun z => nomatch z
theorem Ok.mono (o : Ok K F L σ H ρ M) (s : Same H H') : Ok K F L σ H' ρ M where
  sl := Paired.mapP o.sl fun _ _ q => q.mono (hid_mono s)
  ob := fun x hx => by
    obtain ⟨y, e⟩ := (o.ob x hx).there
    exact (o.ob x hx).mono (hid_mono s) ((s _ _ e).trans e.symm)
  nd := o.nd
  fr := o.fr.trans s
  fn := o.fn
  lv := fun p hp z => by
    cases e : H p with
    | none => exact o.lv p hp e
    | some y => rw [s _ _ e] at z; cases z
theorem Ok.new (o : Ok K F L σ H ρ M) {p : Addr} {x : HO} (h : H p = none) : Ok K F L σ (upd H p x) ρ M := o.mono (same_new h)
theorem Ok.fresh (o : Ok K F L σ H ρ M) {p : Addr} (h : H p = none) : p ∉ L ++ ad M := fun z => o.there z h
theorem paired_get {α β : Type} {G : α → β → Prop} : ∀ {xs : List α} {ys : List β} {i : Nat} {y : β}, Paired G xs ys → ys[i]? = some y → ∃ x, xs[i]? = some x ∧ G x y
  | _, _, _, _, .nil, e => by simp at e
  | _, _, 0, _, .cons r _, e => by simp at e; subst e; exact ⟨_, rfl, r⟩
  | _, _, i + 1, y, .cons _ t, e => by
    obtain ⟨u, h1, h2⟩ := paired_get (i := i) (y := y) t (by simpa using e)
    exact ⟨u, by simpa using h1, h2⟩
theorem paired_set {α β : Type} {G : α → β → Prop} {x : α} {y : β} (h : G x y) : ∀ {xs : List α} {ys : List β} (i : Nat), Paired G xs ys → Paired G (xs.set i x) (ys.set i y)
  | _, _, _, .nil => .nil
  | _, _, 0, .cons _ t => .cons h t
  | _, _, i + 1, .cons q t => .cons q (paired_set h i t)
theorem Ok.get (o : Ok K F L σ H ρ M) {i : Nat} {s : Sl} (h : ρ[i]? = some s) (n : s ≠ .un) : ∃ v, σ[i]? = some (some v) ∧ SlOk K (hid (L ++ ad M) H) v s := by
  obtain ⟨x, h1, h2⟩ := paired_get o.sl h
  rcases h2 with h2 | ⟨v, rfl, h2⟩
  · exact absurd h2 n
  · exact ⟨v, h1, h2⟩
theorem Ok.set (o : Ok K F L σ H ρ M) {i : Nat} {s : Sl} {v : V} (h : SlOk K (hid (L ++ ad M) H) v s) : Ok K F L (σ.set i (some v)) H (ρ.set i s) M :=
  { o with sl := paired_set (.inr ⟨v, rfl, h⟩) i o.sl }
/-- less is told -/
inductive Wk : List Sl → List Sl → Prop
  | nil : Wk [] []
  | same {s : Sl} {a b : List Sl} : Wk a b → Wk (s :: a) (s :: b)
  | un {s : Sl} {a b : List Sl} : Wk a b → Wk (s :: a) (.un :: b)
theorem wk_ok {G : Hp} : ∀ {σ : L2.St} {ρ ρ' : List Sl}, Wk ρ ρ' → Paired (SlO K G) σ ρ → Paired (SlO K G) σ ρ'
  | _, _, _, .nil, h => h
  | _, _, _, .same w, .cons r t => .cons r (wk_ok w t)
  | _, _, _, .un w, .cons _ t => .cons (.inl rfl) (wk_ok w t)
theorem Ok.weak {ρ' : List Sl} (o : Ok K F L σ H ρ M) (w : Wk ρ ρ') : Ok K F L σ H ρ' M := { o with sl := wk_ok w o.sl }
/-- a new object is told -/
theorem Ok.add (o : Ok K F L σ H ρ M) {p : Addr} {x : MO} (hs : Paired (SlO K (hid (p :: (L ++ ad M)) H)) σ ρ) (hm : ∀ y ∈ M, MOk K (hid (p :: (L ++ ad M)) H) H y.1 y.2) (hp : p ∉ ad M) (hf : F p = none) (hx : MOk K (hid (p :: (L ++ ad M)) H) H p x) :
    Ok K F L σ H ρ (M ++ [(p, x)]) := by
  have sub : ∀ a, a ∈ L ++ ad (M ++ [(p, x)]) → a ∈ p :: (L ++ ad M) := fun a ha => by
    simp only [ad, List.map_append, List.map_cons, List.map_nil, List.mem_append, List.mem_cons, List.not_mem_nil, or_false] at ha ⊢
    rcases ha with h | h | h
    · exact .inr (.inl h)
    · exact .inr (.inr h)
    · exact .inl h
  refine ⟨Paired.mapP hs fun _ _ q => q.mono (hid_sub sub), fun y hy => ?_, ?_, o.fr, fun q hq => ?_, o.lv⟩
  · rcases List.mem_append.mp hy with hy | hy
    · exact (hm y hy).mono (hid_sub sub) rfl
    · have e : y = (p, x) := by simpa using hy
      subst e
      exact hx.mono (hid_sub sub) rfl
  · simp only [ad, List.map_append, List.map_cons, List.map_nil]
    refine List.nodup_append.mpr ⟨o.nd, by simp, fun a ha b hb e => ?_⟩
    have e2 : b = p := by simpa using hb
    subst e2; subst e; exact hp ha
  · simp only [ad, List.map_append, List.map_cons, List.map_nil, List.mem_append, List.mem_singleton] at hq
    rcases hq with hq | hq
    · exact o.fn q hq
    · rw [hq]; exact hf
/-- the state ahead of a new object at p, that object out of sight -/
theorem Ok.hide (o : Ok K F L σ H ρ M) {p : Addr} (h : H p = none) (s : Same (hid (L ++ ad M) H) (hid (L ++ ad M) H1)) : Paired (SlO K (hid (p :: (L ++ ad M)) H1)) σ ρ :=
  Paired.mapP o.sl fun _ _ q => q.mono fun a x e => by
    have e1 := s a x e
    obtain ⟨n1, e2⟩ := hid_some e1
    obtain ⟨_, e3⟩ := hid_some e
    rw [hid_out]
    · exact e2
    · rw [List.mem_cons]; rintro (z | z)
      · rw [z, h] at e3; cases e3
      · exact n1 z
/-- the object at p changes -/
theorem Ok.change (o : Ok K F L σ H ρ M) {j : Nat} {p : Addr} {x y : MO} (hj : M[j]? = some (p, x)) (s : Same (hid [p] H) H') (hy : MOk K (hid (L ++ ad M) H') H' p y) (hd : ∀ a, a ∈ L → a ≠ p → H' a ≠ none) : Ok K F L σ H' ρ (M.set j (p, y)) := by
  have hp : p ∈ ad M := List.mem_map.mpr ⟨_, List.mem_of_getElem? hj, rfl⟩
  have ea : ad (M.set j (p, y)) = ad M := by
    apply List.ext_getElem? ; intro i
    simp only [ad, List.getElem?_map, List.getElem?_set]
    by_cases e : j = i
    · subst e
      have hl : j < M.length := (List.getElem?_eq_some_iff.mp hj).1
      rw [if_pos rfl, if_pos hl, hj] <;> rfl
    · rw [if_neg e]
  have sub : Same (hid (L ++ ad M) H) (hid (L ++ ad M) H') := fun a z e => by
    obtain ⟨n, e2⟩ := hid_some e
    rw [hid_out n]
    refine s a z ?_
    rw [hid_out]; · exact e2
    · intro q
      have q2 : a = p := by simpa using q
      subst q2; exact n (List.mem_append_right _ hp)
  refine ⟨?_, fun z hz => ?_, ea ▸ o.nd, fun a z e => ?_, fun q hq => o.fn q (ea ▸ hq), fun a ha => ?_⟩
  · rw [ea]; exact Paired.mapP o.sl fun _ _ q => q.mono sub
  · rw [ea]
    obtain ⟨i, hi⟩ := List.mem_iff_getElem?.mp hz
    rw [List.getElem?_set] at hi
    by_cases e : j = i
    · rw [if_pos e] at hi
      split at hi
      · cases hi; exact hy
      · cases hi
    · rw [if_neg e] at hi
      have hzm : z ∈ M := List.mem_of_getElem? hi
      have ne : z.1 ≠ p := fun q => by
        have h1 : (ad M)[i]? = some p := by simp only [ad, List.getElem?_map, hi, Option.map_some, q]
        have h2 : (ad M)[j]? = some p := by simp only [ad, List.getElem?_map, hj, Option.map_some]
        exact e (((List.getElem?_inj (List.getElem?_eq_some_iff.mp h2).1 o.nd).mp (h2.trans h1.symm)))
      obtain ⟨x', e'⟩ := (o.ob z hzm).there
      refine (o.ob z hzm).mono sub ?_
      rw [e']; exact s _ _ (by rw [hid_out (by simpa using ne)]; exact e')
  · refine s a z ?_
    rw [hid_out]
    · exact o.fr a z e
    · intro q
      have q2 : a = p := by simpa using q
      subst q2; rw [o.fn _ hp] at e; cases e
  · by_cases e : a = p
    · subst e
      obtain ⟨x', e'⟩ := hy.there
      rw [e']; exact fun z => nomatch z
    · exact hd a ha e
end
end Wm

namespace Wm
open PySem L2
section
variable {K : PySem.W.Frag} {F F' H H' H0 H1 : Hp} {L : List Addr} {σ : L2.St} {ρ ρ' : List Sl} {M M' M1 M2 M3 : Ms}
theorem same_vis {X : List Addr} (s : Same (hid (ad M) H) H') (h : ∀ a, a ∈ ad M → a ∈ X) : Same (hid X H) (hid X H') := fun a x e => by
  obtain ⟨n, e2⟩ := hid_some e
  rw [hid_out n]
  exact s a x (by rw [hid_out (fun z => n (h a z))]; exact e2)
theorem same_visL (s : Same (hid (ad M) H) H') : Same (hid (L ++ ad M) H) (hid (L ++ ad M) H') := same_vis s fun _ z => List.mem_append_right _ z
theorem same_lay {X : List Addr} {p : Addr} {x : HO} (h : H p = none) : Same (hid X H) (hid (p :: X) (upd H p x)) := fun a z e => by
  obtain ⟨n, e2⟩ := hid_some e
  have np : a ≠ p := ne_of_none e2 h
  rw [hid_out (by rw [List.mem_cons]; rintro (q | q); exact np q; exact n q), upd_ne np]; exact e2
theorem Ok.lay (o : Ok K F L σ H ρ M) {p : Addr} {x : HO} (h : H p = none) : Ok K F (p :: L) σ (upd H p x) ρ M where
  sl := Paired.mapP o.sl fun _ _ q => q.mono (same_lay h)
  ob := fun y hy => by
    obtain ⟨z, e⟩ := (o.ob y hy).there
    exact (o.ob y hy).mono (same_lay h) (upd_ne (ne_of_none e h))
  nd := o.nd
  fr := o.fr.trans (same_new h)
  fn := o.fn
  lv := fun q hq z => by
    by_cases e : q = p
    · rw [e, upd_same] at z; cases z
    · rw [upd_ne e] at z
      rcases List.mem_cons.mp hq with hq | hq
      · exact e hq
      · exact o.lv q hq z
theorem Ok.lift {p : Addr} (o : Ok K F (p :: L) σ H ρ M) : Ok K F L σ H ρ M where
  sl := Paired.mapP o.sl fun _ _ q => q.mono (hid_sub fun _ z => List.mem_cons_of_mem _ z)
  ob := fun y hy => (o.ob y hy).mono (hid_sub fun _ z => List.mem_cons_of_mem _ z) rfl
  nd := o.nd
  fr := o.fr
  fn := o.fn
  lv := fun q hq => o.lv q (List.mem_cons_of_mem _ hq)
/-- what is out of sight, of L, and not of the frame changes -/
theorem Ok.updL {p : Addr} {x : HO} (o : Ok K F L σ H ρ M) (hp : p ∈ L) (hf : F p = none) (hm : p ∉ ad M) : Ok K F L σ (upd H p x) ρ M where
  sl := by rw [hid_upd (List.mem_append_left _ hp)]; exact o.sl
  ob := fun y hy => by
    rw [hid_upd (List.mem_append_left _ hp)]
    exact (o.ob y hy).mono (fun _ _ z => z) (upd_ne fun z => hm (by rw [← z]; exact List.mem_map.mpr ⟨y, hy, rfl⟩))
  nd := o.nd
  fr := fun a z e => by rw [upd_ne (ne_of_none e hf)]; exact o.fr a z e
  fn := o.fn
  lv := fun q hq z => by
    by_cases e : q = p
    · rw [e, upd_same] at z; cases z
    · rw [upd_ne e] at z; exact o.lv q hq z
theorem Ok.unfr (o : Ok K F' L σ H ρ M) (s : Same F F') : Ok K F L σ H ρ M :=
  { o with fr := s.trans o.fr, fn := fun p hp => s.free (o.fn p hp) }
theorem Ok.fr_self (o : Ok K F L σ H ρ M) : Ok K (hid (ad M) H) L σ H ρ M ∧ Same F (hid (ad M) H) :=
  ⟨{ o with fr := hid_le _ _, fn := fun p hp => hid_in hp }, fun a x e => by
    rw [hid_out fun z => by rw [o.fn a z] at e; cases e]; exact o.fr a x e⟩
/-! ### expressions -/
def Ev (K : PySem.W.Frag) (te : TE) (ρ : List Sl) (M : Ms) (s : Sl) (M' : Ms) : Prop := ∀ F L σ H, Ok K F L σ H ρ M → ∀ Q : VK, (∀ v H1, Ok K F L σ H1 ρ M' → ad M' = ad M → Same (hid (ad M) H) H1 → SlOk K (hid (L ++ ad M) H1) v s → Q v H1) → te σ H Q
def EvT (K : PySem.W.Frag) (tt : TT) (ρ : List Sl) (M : Ms) (b : Bool) (M' : Ms) : Prop := ∀ F L σ H, Ok K F L σ H ρ M → ∀ Q : Bool → Hp → Prop, (∀ H1, Ok K F L σ H1 ρ M' → ad M' = ad M → Same (hid (ad M) H) H1 → Q b H1) → tt σ H Q
def EvA (K : PySem.W.Frag) (ta : TA) (ρ : List Sl) (M : Ms) (ss : List Sl) (M' : Ms) : Prop := ∀ F L σ H, Ok K F L σ H ρ M → ∀ Q : List V → Hp → Prop, (∀ vs H1, Ok K F L σ H1 ρ M' → ad M' = ad M → Same (hid (ad M) H) H1 → Paired (SlOk K (hid (L ++ ad M) H1)) vs ss → Q vs H1) → ta σ H Q
/-- a new list -/
def EvN (K : PySem.W.Frag) (te : TE) (ρ : List Sl) (M : Ms) (ds : List PyData) (M' : Ms) : Prop := ∀ F L σ H, Ok K F L σ H ρ M → ∀ Q : VK, (∀ p vs H1, H p = none → Ok K F (p :: L) σ H1 ρ M' → ad M' = ad M → Same (hid (ad M) H) H1 → H1 p = some (.lst vs) → DpAll K (hid (p :: (L ++ ad M)) H1) vs ds → Q (.ref p) H1) → te σ H Q
theorem mem_ad_of {Q : Addr → Prop} (o : Ok K F L σ H ρ M) {p : Addr} (h : H p = none) : p ∉ ad M := fun z => o.fresh h (List.mem_append_right _ z)
variable {te ta tb tc : TE} {tt tu : TT} {tr : TA} {s s1 s2 : Sl} {ss : List Sl} {d d1 d2 : PyData} {ds es : List PyData}
theorem EvN.ev (h : EvN K te ρ M ds M') : Ev K te ρ M (.dat (.list ds)) M' := fun F L σ H o Q q => h F L σ H o Q fun p vs H1 hp o1 e s1 h1 h2 => q _ H1 o1.lift e s1 (.lst (.inl (by
    rw [hid_out (o.fresh hp)]; exact h1)) (DpAll.mono (hid_sub fun _ z => List.mem_cons_of_mem _ z) h2))
theorem chain2 (e : ad M1 = ad M) (a : Same (hid (ad M) H) H0) (b : Same (hid (ad M1) H0) H1) : Same (hid (ad M) H) H1 := fun x y q => by
  refine b x y ?_
  obtain ⟨n, _⟩ := hid_some q
  rw [hid_out (by rw [e]; exact n)]; exact a x y q
theorem later {v : V} (e : ad M1 = ad M) (b : Same (hid (ad M1) H0) H1) (h : SlOk K (hid (L ++ ad M) H0) v s) : SlOk K (hid (L ++ ad M) H1) v s := h.mono (same_vis b fun _ z => List.mem_append_right _ (e ▸ z))
theorem Ev.two (ha : Ev K ta ρ M s1 M1) (hb : Ev K tb ρ M1 s2 M2) (o : Ok K F L σ H ρ M) {R : V → V → Hp → Prop} (h : ∀ x y H2, Ok K F L σ H2 ρ M2 → ad M2 = ad M → Same (hid (ad M) H) H2 → SlOk K (hid (L ++ ad M) H2) x s1 → SlOk K (hid (L ++ ad M) H2) y s2 → R x y H2) :
    ta σ H fun x H1 => tb σ H1 fun y H2 => R x y H2 := ha F L σ H o _ fun x H1 o1 e1 a1 x1 => hb F L σ H1 o1 _ fun y H2 o2 e2 a2 y2 => h x y H2 o2 (e2.trans e1) (chain2 e1 a1 a2) (later e1 a2 x1) (by rw [e1] at y2; exact y2)
theorem EvA.nil : EvA K tNil ρ M [] M := fun F L σ H o Q q => q [] H o rfl (hid_le _ _) .nil
theorem EvA.cons (ha : Ev K ta ρ M s M1) (hr : EvA K tr ρ M1 ss M2) : EvA K (tCons ta tr) ρ M (s :: ss) M2 := fun F L σ H o Q q =>
  ha F L σ H o _ fun x H1 o1 e1 a1 x1 => hr F L σ H1 o1 _ fun ys H2 o2 e2 a2 y2 => q (x :: ys) H2 o2 (e2.trans e1) (chain2 e1 a1 a2) (.cons (later e1 a2 x1) (by rw [e1] at y2; exact y2))
theorem ev_varD {i : Nat} (h : ρ[i]? = some (.dat d)) : Ev K (tVar i) ρ M (.dat d) M := fun F L σ H o Q q => by
  obtain ⟨v, h1, h2⟩ := o.get h (fun z => nomatch z)
  exact ⟨v, h1, q v H o rfl (hid_le _ _) h2⟩
theorem ev_varL {i : Nat} {v : V} (h : ρ[i]? = some (.loc v)) : Ev K (tVar i) ρ M (.loc v) M := fun F L σ H o Q q => by
  obtain ⟨v, h1, h2⟩ := o.get h (fun z => nomatch z)
  exact ⟨v, h1, q v H o rfl (hid_le _ _) h2⟩
theorem ev_c {v : V} (h : ∀ H, SlOk K H v s) : Ev K (tC v) ρ M s M := fun F L σ H o Q q => q v H o rfl (hid_le _ _) (h _)
theorem ev_int {i : Int} : Ev K (tC (.int i)) ρ M (.dat (.int i)) M := ev_c fun _ => .int i
theorem ev_bl {b : Bool} : Ev K (tC (.bl b)) ρ M (.dat (.bool b)) M := ev_c fun _ => .bl b
theorem ev_str {x : Str} : Ev K (tC (.str x)) ρ M (.dat (.str x)) M := ev_c fun _ => .str x
theorem ev_non : Ev K (tC .non) ρ M (.dat .none) M := ev_c fun _ => .non
/-- a place of K -/
theorem ev_ref {a : Addr} : Ev K (tC (.ref a)) ρ M (.loc (.ref a)) M := ev_c fun _ => rfl
theorem ev_op {r : R2} (ha : Ev K ta ρ M s1 M1) (hb : Ev K tb ρ M1 s2 M2)
    (hr : ∀ F L σ H x y, Ok K F L σ H ρ M2 → SlOk K (hid (L ++ ad M2) H) x s1 → SlOk K (hid (L ++ ad M2) H) y s2 → ∀ Q : VK, (∀ v H1, Same H H1 → SlOk K (hid (L ++ ad M2) H1) v s → Q v H1) → r x y H Q) : Ev K (tOp r ta tb) ρ M s M2 := fun F L σ H o Q q =>
  ha.two hb o fun x y H2 o2 e2 a2 hx hy => hr F L σ H2 x y o2 (by rw [e2]; exact hx) (by rw [e2]; exact hy) Q fun v H3 s3 h3 => q v H3 (o2.mono s3) e2 (a2.trans s3) (by rw [e2] at h3; exact h3)
theorem int_of {v : V} {i : Int} (h : SlOk K H v (.dat (.int i))) : v = .int i := by
  have h' : Dp K H v (.int i) := h
  cases h'; rfl
theorem str_of {v : V} {i : Str} (h : SlOk K H v (.dat (.str i))) : v = .str i := by
  have h' : Dp K H v (.str i) := h
  cases h'; rfl
theorem bl_of {v : V} {i : Bool} (h : SlOk K H v (.dat (.bool i))) : v = .bl i := by
  have h' : Dp K H v (.bool i) := h
  cases h'; rfl
theorem non_of {v : V} (h : SlOk K H v (.dat .none)) : v = .non := by
  have h' : Dp K H v .none := h
  cases h'; rfl
theorem list_of {v : V} {ds : List PyData} (h : SlOk K H v (.dat (.list ds))) : ∃ a xs, v = .ref a ∧ Rd H a (.lst xs) ∧ DpAll K H xs ds := by
  have h' : Dp K H v (.list ds) := h
  cases h' with
  | lst h1 h2 => exact ⟨_, _, rfl, h1, h2⟩
theorem tupK_of {v : V} {ds : List PyData} (h : SlOk K H v (.dat (.tuple ds))) : ∃ a xs, v = .ref a ∧ H a = some (.tup xs) ∧ DpAll K H xs ds := by
  have h' : Dp K H v (.tuple ds) := h
  cases h' with
  | tup h1 h2 => exact ⟨_, _, rfl, h1, h2⟩
theorem tup_of {v : V} {ds : List PyData} (h : SlOk K H v (.dat (.tuple ds))) : ∃ a xs, v = .ref a ∧ SqT K H a xs ∧ DpAll K H xs ds := by
  obtain ⟨a, xs, e, h1, h2⟩ := tupK_of h
  exact ⟨a, xs, e, .inl (.inl h1), h2⟩
theorem scr_of {v : V} {ns : List Int} (h : SlOk K H v (.dat (dScr ns))) : ∃ a, v = .ref a ∧ SqL K H a (ns.map V.int) := by
  have h' : Dp K H v (dScr ns) := h
  generalize hd : dScr ns = d at h'
  cases h' with
  | scr h1 =>
    rename_i a ms
    have e : ms = ns := by
      have e0 := PyData.dict.inj hd
      have e1 := congrArg (List.map fun p : PyData × PyData => match p.1 with | .int i => i | _ => 0) e0
      rw [List.map_map, List.map_map] at e1
      have f : ∀ l : List Int, List.map ((fun p : PyData × PyData => match p.1 with | .int i => i | _ => 0) ∘ fun i => (PyData.int i, PyData.none)) l = l := fun l => by
        induction l with
        | nil => rfl
        | cons x r ih => rw [List.map_cons, ih]; rfl
      rw [f, f] at e1
      exact e1.symm
    subst e
    exact ⟨a, rfl, h1⟩
  | _ => cases hd
theorem SqT.mono {a : Addr} {xs : List V} (s : Same H H') (h : SqT K H a xs) : SqT K H' a xs := by
  rcases h with (h | ⟨o, h⟩) | h
  · exact .inl (.inl (s _ _ h))
  · exact .inl (.inr ⟨o, s _ _ h⟩)
  · exact .inr h
theorem dpAll_of : ∀ {vs : List V} {ds : List PyData}, Paired (SlOk K H) vs (ds.map Sl.dat) → DpAll K H vs ds
  | _, [], h => by cases h; exact .nil
  | _, d :: ds, h => by
    cases h with
    | cons h a => exact .cons h (dpAll_of a)
theorem of_dpAll : ∀ {vs : List V} {ds : List PyData}, DpAll K H vs ds → Paired (SlOk K H) vs (ds.map Sl.dat)
  | _, _, .nil => .nil
  | _, _, .cons h a => .cons h (of_dpAll a)
theorem ev_I0 {g : Int → Int → V} {i j : Int} (ha : Ev K ta ρ M (.dat (.int i)) M1) (hb : Ev K tb ρ M1 (.dat (.int j)) M2) (hg : ∀ H, SlOk K H (g i j) s) : Ev K (tOp (rI0 g) ta tb) ρ M s M2 :=
  ev_op ha hb fun F L σ H x y o hx hy Q q => ⟨i, j, int_of hx, int_of hy, q _ H (Same.refl H) (hg _)⟩
theorem ev_I {C : Int → Int → Prop} {g : Int → Int → V} {i j : Int} (ha : Ev K ta ρ M (.dat (.int i)) M1) (hb : Ev K tb ρ M1 (.dat (.int j)) M2) (hc : C i j) (hg : ∀ H, SlOk K H (g i j) s) : Ev K (tOp (rI C g) ta tb) ρ M s M2 :=
  ev_op ha hb fun F L σ H x y o hx hy Q q => ⟨i, j, int_of hx, int_of hy, hc, q _ H (Same.refl H) (hg _)⟩
section
variable {i j : Int} (ha : Ev K ta ρ M (.dat (.int i)) M1) (hb : Ev K tb ρ M1 (.dat (.int j)) M2)
include ha hb
theorem ev_add : Ev K (tOp (rI0 fun i j => .int (i + j)) ta tb) ρ M (.dat (.int (i + j))) M2 := ev_I0 ha hb fun _ => .int _
theorem ev_sub : Ev K (tOp (rI0 fun i j => .int (i - j)) ta tb) ρ M (.dat (.int (i - j))) M2 := ev_I0 ha hb fun _ => .int _
theorem ev_lt : Ev K (tOp (rI0 fun i j => .bl (decide (i < j))) ta tb) ρ M (.dat (.bool (decide (i < j)))) M2 := ev_I0 ha hb fun _ => .bl _
theorem ev_le : Ev K (tOp (rI0 fun i j => .bl (decide (i ≤ j))) ta tb) ρ M (.dat (.bool (decide (i ≤ j)))) M2 := ev_I0 ha hb fun _ => .bl _
theorem ev_gt : Ev K (tOp (rI0 fun i j => .bl (decide (j < i))) ta tb) ρ M (.dat (.bool (decide (j < i)))) M2 := ev_I0 ha hb fun _ => .bl _
theorem ev_ge : Ev K (tOp (rI0 fun i j => .bl (decide (j ≤ i))) ta tb) ρ M (.dat (.bool (decide (j ≤ i)))) M2 := ev_I0 ha hb fun _ => .bl _
theorem ev_mul (hc : CMul i j) : Ev K (tOp (rI CMul fun i j => .int (i * j)) ta tb) ρ M (.dat (.int (i * j))) M2 := ev_I ha hb hc fun _ => .int _
theorem ev_div (hc : CDiv i j) : Ev K (tOp (rI CDiv fun i j => .int (i / j)) ta tb) ρ M (.dat (.int (i / j))) M2 := ev_I ha hb hc fun _ => .int _
theorem ev_mod (hc : 0 < j) : Ev K (tOp (rI (fun _ j => 0 < j) fun i j => .int (i % j)) ta tb) ρ M (.dat (.int (i % j))) M2 := ev_I ha hb hc fun _ => .int _
theorem ev_pow (hc : CPow i j) : Ev K (tOp (rI CPow fun i j => .int (i ^ j.toNat)) ta tb) ρ M (.dat (.int (i ^ j.toNat))) M2 := ev_I ha hb hc fun _ => .int _
theorem ev_eqI : Ev K (tOp rEq ta tb) ρ M (.dat (.bool (decide (i = j)))) M2 := ev_op ha hb fun F L σ H x y o hx hy Q q => by
  rw [int_of hx, int_of hy]
  refine ⟨rfl, q _ H (Same.refl H) ?_⟩
  rw [show decide (V.int i = V.int j) = decide (i = j) by simp]
  exact .bl _
theorem ev_neI : Ev K (tOp rNe ta tb) ρ M (.dat (.bool (!decide (i = j)))) M2 := ev_op ha hb fun F L σ H x y o hx hy Q q => by
  rw [int_of hx, int_of hy]
  refine ⟨rfl, q _ H (Same.refl H) ?_⟩
  rw [show decide (V.int i = V.int j) = decide (i = j) by simp]
  exact .bl _
end
theorem ev_eqS {i j : Str} (ha : Ev K ta ρ M (.dat (.str i)) M1) (hb : Ev K tb ρ M1 (.dat (.str j)) M2) : Ev K (tOp rEq ta tb) ρ M (.dat (.bool (decide (i = j)))) M2 := ev_op ha hb fun F L σ H x y o hx hy Q q => by
  rw [str_of hx, str_of hy]
  refine ⟨rfl, q _ H (Same.refl H) ?_⟩
  rw [show decide (V.str i = V.str j) = decide (i = j) by simp]
  exact .bl _
theorem ev_neS {i j : Str} (ha : Ev K ta ρ M (.dat (.str i)) M1) (hb : Ev K tb ρ M1 (.dat (.str j)) M2) : Ev K (tOp rNe ta tb) ρ M (.dat (.bool (!decide (i = j)))) M2 := ev_op ha hb fun F L σ H x y o hx hy Q q => by
  rw [str_of hx, str_of hy]
  refine ⟨rfl, q _ H (Same.refl H) ?_⟩
  rw [show decide (V.str i = V.str j) = decide (i = j) by simp]
  exact .bl _
/-- == of data at any depth -/
theorem ev_eqD (ha : Ev K ta ρ M (.dat d1) M1) (hb : Ev K tb ρ M1 (.dat d2) M2) (h1 : SeqAt.shaped d1 = true) (h2 : SeqAt.shaped d2 = true) : Ev K (tOp (rEqD K) ta tb) ρ M (.dat (.bool (PyData.eqv d1 d2))) M2 :=
  ev_op ha hb fun F L σ H x y o hx hy Q q => ⟨d1, d2, Dp.lo (Dp.mono (hid_le _ _) hx) (SeqAt.canLay_of_shaped h1), Dp.lo (Dp.mono (hid_le _ _) hy) (SeqAt.canLay_of_shaped h2), h1, h2, q _ H (Same.refl H) (.bl _)⟩
theorem ev_neD (ha : Ev K ta ρ M (.dat d1) M1) (hb : Ev K tb ρ M1 (.dat d2) M2) (h1 : SeqAt.shaped d1 = true) (h2 : SeqAt.shaped d2 = true) : Ev K (tOp (rNeD K) ta tb) ρ M (.dat (.bool (!PyData.eqv d1 d2))) M2 :=
  ev_op ha hb fun F L σ H x y o hx hy Q q => ⟨d1, d2, Dp.lo (Dp.mono (hid_le _ _) hx) (SeqAt.canLay_of_shaped h1), Dp.lo (Dp.mono (hid_le _ _) hy) (SeqAt.canLay_of_shaped h2), h1, h2, q _ H (Same.refl H) (.bl _)⟩
theorem ev_isN (ha : Ev K ta ρ M (.dat d) M1) : Ev K (tOp (fun x y H Q => y = .non ∧ Q (.bl (decide (x = .non))) H) ta (tC .non)) ρ M (.dat (.bool (match d with | .none => true | _ => false))) M1 :=
  ev_op ha ev_non fun F L σ H x y o hx hy Q q => ⟨non_of hy, q _ H (Same.refl H) (by
    have hx' : Dp K (hid (L ++ ad M1) H) x d := hx
    cases hx' <;> exact .bl _)⟩
theorem ev_notN (ha : Ev K ta ρ M (.dat d) M1) : Ev K (tOp (fun x y H Q => y = .non ∧ Q (.bl (!decide (x = .non))) H) ta (tC .non)) ρ M (.dat (.bool (match d with | .none => false | _ => true))) M1 :=
  ev_op ha ev_non fun F L σ H x y o hx hy Q q => ⟨non_of hy, q _ H (Same.refl H) (by
    have hx' : Dp K (hid (L ++ ad M1) H) x d := hx
    cases hx' <;> exact .bl _)⟩
theorem ev_neg {i : Int} (ha : Ev K ta ρ M (.dat (.int i)) M1) : Ev K (tUn (rU fun i => .int (-i)) ta) ρ M (.dat (.int (-i))) M1 := fun F L σ H o Q q =>
  ha F L σ H o _ fun x H1 o1 e1 a1 x1 => ⟨i, int_of x1, q _ H1 o1 e1 a1 (.int _)⟩
/-! ### tests -/
theorem et_test {b : Bool} (h : Ev K te ρ M (.dat (.bool b)) M1) : EvT K (tTest te) ρ M b M1 := fun F L σ H o Q q => h F L σ H o _ fun x H1 o1 e1 a1 x1 => ⟨b, bl_of x1, q H1 o1 e1 a1⟩
theorem et_B {b : Bool} (h : Ev K te ρ M (.dat (.bool b)) M1) : EvT K (tB te) ρ M b M1 := fun F L σ H o Q q => h F L σ H o _ fun x H1 o1 e1 a1 x1 => ⟨b, bl_of x1, q H1 o1 e1 a1⟩
/-- the second is asked only where the first is true: M stays -/
theorem et_and {a b : Bool} (h1 : EvT K tt ρ M a M) (h2 : a = true → EvT K tu ρ M b M) : EvT K (tAnd tt tu) ρ M (a && b) M := fun F L σ H o Q q => h1 F L σ H o _ fun H1 o1 e1 a1 => by
  cases a with
  | true => exact h2 rfl F L σ H1 o1 _ fun H2 o2 e2 a2 => q H2 o2 e2 (chain2 e1 a1 a2)
  | false => exact q H1 o1 e1 a1
theorem et_or {a b : Bool} (h1 : EvT K tt ρ M a M) (h2 : a = false → EvT K tu ρ M b M) : EvT K (tOr tt tu) ρ M (a || b) M := fun F L σ H o Q q => h1 F L σ H o _ fun H1 o1 e1 a1 => by
  cases a with
  | true => exact q H1 o1 e1 a1
  | false => exact h2 rfl F L σ H1 o1 _ fun H2 o2 e2 a2 => q H2 o2 e2 (chain2 e1 a1 a2)
/-- the second may draw: behind false M is as it was -/
theorem et_andM {a b : Bool} (h1 : EvT K tt ρ M a M) (h2 : a = true → EvT K tu ρ M b M1) (e : ad M1 = ad M) : EvT K (tAnd tt tu) ρ M (a && b) (if a = true then M1 else M) := fun F L σ H o Q q => h1 F L σ H o _ fun H1 o1 e1 a1 => by
  cases a with
  | true => exact h2 rfl F L σ H1 o1 _ fun H2 o2 e2 a2 => q H2 o2 e2 (chain2 e1 a1 a2)
  | false => exact q H1 o1 e1 a1
theorem et_not {a : Bool} (h1 : EvT K tt ρ M a M1) : EvT K (tNot tt) ρ M (!a) M1 := fun F L σ H o Q q => h1 F L σ H o _ fun H1 o1 e1 a1 => q H1 o1 e1 a1
theorem et_is {a b : Bool} (h : EvT K tt ρ M a M1) (e : a = b) : EvT K tt ρ M b M1 := by rw [← e]; exact h
theorem ev_is (h : Ev K te ρ M s1 M1) (e : s1 = s2) : Ev K te ρ M s2 M1 := by rw [← e]; exact h
theorem ev_isM (h : Ev K te ρ M s M1) (e : M1 = M2) : Ev K te ρ M s M2 := by rw [← e]; exact h
theorem ev_isD (h : Ev K te ρ M (.dat d1) M1) (e : d1 = d2) : Ev K te ρ M (.dat d2) M1 := by rw [← e]; exact h
theorem evn_is (h : EvN K te ρ M ds M1) (e : ds = es) : EvN K te ρ M es M1 := by rw [← e]; exact h
theorem ev_andV {a b : Bool} (h1 : Ev K ta ρ M (.dat (.bool a)) M) (h2 : a = true → Ev K tb ρ M (.dat (.bool b)) M) : Ev K (tAndV ta tb) ρ M (.dat (.bool (a && b))) M := fun F L σ H o Q q => h1 F L σ H o _ fun x H1 o1 e1 a1 x1 => ⟨a, bl_of x1, by
  cases a with
  | true => exact h2 rfl F L σ H1 o1 _ fun v H2 o2 e2 a2 x2 => q v H2 o2 e2 (chain2 e1 a1 a2) x2
  | false => exact q _ H1 o1 e1 a1 (.bl _)⟩
theorem ev_orV {a b : Bool} (h1 : Ev K ta ρ M (.dat (.bool a)) M) (h2 : a = false → Ev K tb ρ M (.dat (.bool b)) M) : Ev K (tOrV ta tb) ρ M (.dat (.bool (a || b))) M := fun F L σ H o Q q => h1 F L σ H o _ fun x H1 o1 e1 a1 x1 => ⟨a, bl_of x1, by
  cases a with
  | true => exact q _ H1 o1 e1 a1 (.bl _)
  | false => exact h2 rfl F L σ H1 o1 _ fun v H2 o2 e2 a2 x2 => q v H2 o2 e2 (chain2 e1 a1 a2) x2⟩
theorem ev_notV {a : Bool} (h1 : Ev K ta ρ M (.dat (.bool a)) M1) : Ev K (tNotV ta) ρ M (.dat (.bool (!a))) M1 := fun F L σ H o Q q => h1 F L σ H o _ fun x H1 o1 e1 a1 x1 => ⟨a, bl_of x1, q _ H1 o1 e1 a1 (.bl _)⟩
theorem ev_if {b : Bool} (h : EvT K tt ρ M b M) (h1 : b = true → Ev K ta ρ M s M1) (h2 : b = false → Ev K tb ρ M s M1) : Ev K (tIf tt ta tb) ρ M s M1 := fun F L σ H o Q q => h F L σ H o _ fun H1 o1 e1 a1 => by
  cases b with
  | true => exact h1 rfl F L σ H1 o1 _ fun v H2 o2 e2 a2 x2 => q v H2 o2 e2 (chain2 e1 a1 a2) x2
  | false => exact h2 rfl F L σ H1 o1 _ fun v H2 o2 e2 a2 x2 => q v H2 o2 e2 (chain2 e1 a1 a2) x2
/-- both ways by data -/
theorem ev_ite {b : Bool} (h : EvT K tt ρ M b M) (h1 : b = true → Ev K ta ρ M (.dat d1) M) (h2 : b = false → Ev K tb ρ M (.dat d2) M) : Ev K (tIf tt ta tb) ρ M (.dat (if b = true then d1 else d2)) M := by
  refine ev_if h (fun e => ?_) fun e => ?_
  · rw [if_pos e]; exact h1 e
  · rw [if_neg (by rw [e]; exact Bool.false_ne_true)]; exact h2 e
theorem ev_chain {r r' : R2} {i j k : Int} {p p' : Int → Int → Bool} (hr : r = rI0 fun i j => .bl (p i j)) (hr' : r' = rI0 fun i j => .bl (p' i j)) (ha : Ev K ta ρ M (.dat (.int i)) M) (hb : Ev K tb ρ M (.dat (.int j)) M) (hc : Ev K tc ρ M (.dat (.int k)) M) :
    Ev K (tChain r r' ta tb tc) ρ M (.dat (.bool (p i j && p' j k))) M := by
  subst hr hr'
  refine fun F L σ H o Q q => ha.two hb o fun x y H2 o2 e2 a2 hx hy => ⟨i, j, int_of hx, int_of hy, _, rfl, ?_⟩
  cases e : p i j with
  | false =>
    rw [if_neg Bool.false_ne_true]
    refine q _ H2 o2 e2 a2 ?_
    rw [e]; exact .bl _
  | true =>
    rw [if_pos rfl]
    refine hc F L σ H2 o2 _ fun z H3 o3 e3 a3 hz => ⟨j, k, int_of (later e2 a3 hy), int_of hz, q _ H3 o3 e3 (chain2 e2 a2 a3) ?_⟩
    rw [e]; exact .bl _
end
end Wm

namespace Wm
open PySem L2 PySem.Spec PyProof.Rows
section
variable {K : PySem.W.Frag} {F F' H H' H0 H1 : Hp} {L : List Addr} {σ : L2.St} {ρ ρ' : List Sl} {M M' M1 M2 M3 : Ms}
variable {te ta tb tc ti : TE} {tt tu : TT} {tr : TA} {s s1 s2 : Sl} {ss : List Sl} {d d1 d2 : PyData} {ds es : List PyData}
theorem paired_len {α β : Type} {G : α → β → Prop} : ∀ {xs : List α} {ys : List β}, Paired G xs ys → xs.length = ys.length
  | _, _, .nil => rfl
  | _, _, .cons _ t => by rw [List.length_cons, List.length_cons, paired_len t]
theorem line_of {n : Nat} (h : n ≤ 1000000) : n ≤ sizeLine := Nat.le_trans h (by decide)
theorem line_lt {n : Nat} (h : n < 1000000) : n < sizeLine := Nat.lt_of_lt_of_le h (by decide)
/-! ### displays -/
theorem evn_lst (h : EvA K tr ρ M (ds.map Sl.dat) M1) (hl : ds.length ≤ 1000000 := by first | decide | (simp; done) | omega) : EvN K (tLst tr) ρ M ds M1 := fun F L σ H o Q q =>
  h F L σ H o _ fun vs H1 o1 e1 a1 x1 => ⟨by rw [paired_len x1, List.length_map]; exact line_of hl, fun p hp => by
    have hp0 : H p = none := by
      cases e : H p with
      | none => rfl
      | some y =>
        by_cases n : p ∈ ad M
        · exact absurd hp (o1.there (List.mem_append_right _ (by rw [e1]; exact n)))
        · have := a1 p y (by rw [hid_out n]; exact e)
          rw [hp] at this; cases this
    exact q p vs _ hp0 (o1.lay hp) e1 (a1.trans (same_new hp)) upd_same (DpAll.mono (same_lay hp) (dpAll_of x1))⟩
theorem ev_tup (h : EvA K tr ρ M (ds.map Sl.dat) M1) (hl : ds.length ≤ 1000000 := by first | decide | (simp; done) | omega) : Ev K (tTup tr) ρ M (.dat (.tuple ds)) M1 := fun F L σ H o Q q =>
  h F L σ H o _ fun vs H1 o1 e1 a1 x1 => ⟨by rw [paired_len x1, List.length_map]; exact line_of hl, fun p hp => by
    refine q _ _ (o1.new hp) e1 (a1.trans (same_new hp)) (.tup ?_ (DpAll.mono (hid_mono (same_new hp)) (dpAll_of x1)))
    rw [hid_out (by rw [← e1]; exact o1.fresh hp)]; exact upd_same⟩
/-! ### a thing that hands back a new list -/
theorem back_none (o : Ok K F L σ H ρ M) (o1 : Ok K F L σ H1 ρ M1) (e1 : ad M1 = ad M) (a1 : Same (hid (ad M) H) H1) {p : Addr} (hp : H1 p = none) : H p = none := by
  cases e : H p with
  | none => rfl
  | some y =>
    by_cases n : p ∈ ad M
    · exact absurd hp (o1.there (List.mem_append_right _ (by rw [e1]; exact n)))
    · have := a1 p y (by rw [hid_out n]; exact e)
      rw [hp] at this; cases this
theorem evn_op {r : R2} (ha : Ev K ta ρ M s1 M1) (hb : Ev K tb ρ M1 s2 M2)
    (hr : ∀ F L σ H x y, Ok K F L σ H ρ M2 → SlOk K (hid (L ++ ad M2) H) x s1 → SlOk K (hid (L ++ ad M2) H) y s2 → ∀ Q : VK, (∀ p vs, H p = none → DpAll K (hid (L ++ ad M2) H) vs ds → Q (.ref p) (upd H p (.lst vs))) → r x y H Q) : EvN K (tOp r ta tb) ρ M ds M2 := fun F L σ H o Q q =>
  ha.two hb o fun x y H2 o2 e2 a2 hx hy => hr F L σ H2 x y o2 (by rw [e2]; exact hx) (by rw [e2]; exact hy) Q fun p vs hp h3 => q p vs _ (back_none o o2 e2 a2 hp) (o2.lay hp) e2 (a2.trans (same_new hp)) upd_same (by rw [e2] at h3; exact DpAll.mono (same_lay hp) h3)
theorem evn_cb {r : List V → Hp → VK → Prop} (ha : EvA K tr ρ M ss M1)
    (hr : ∀ F L σ H xs, Ok K F L σ H ρ M1 → Paired (SlOk K (hid (L ++ ad M1) H)) xs ss → ∀ Q : VK, (∀ p vs, H p = none → DpAll K (hid (L ++ ad M1) H) vs ds → Q (.ref p) (upd H p (.lst vs))) → r xs H Q) : EvN K (tCB r tr) ρ M ds M1 := fun F L σ H o Q q =>
  ha F L σ H o _ fun xs H2 o2 e2 a2 hx => hr F L σ H2 xs o2 (by rw [e2]; exact hx) Q fun p vs hp h3 => q p vs _ (back_none o o2 e2 a2 hp) (o2.lay hp) e2 (a2.trans (same_new hp)) upd_same (by rw [e2] at h3; exact DpAll.mono (same_lay hp) h3)
theorem ev_cb {r : List V → Hp → VK → Prop} (ha : EvA K tr ρ M ss M1)
    (hr : ∀ F L σ H xs, Ok K F L σ H ρ M1 → Paired (SlOk K (hid (L ++ ad M1) H)) xs ss → ∀ Q : VK, (∀ v H1, Same H H1 → SlOk K (hid (L ++ ad M1) H1) v s → Q v H1) → r xs H Q) : Ev K (tCB r tr) ρ M s M1 := fun F L σ H o Q q =>
  ha F L σ H o _ fun xs H2 o2 e2 a2 hx => hr F L σ H2 xs o2 (by rw [e2]; exact hx) Q fun v H3 s3 h3 => q v H3 (o2.mono s3) e2 (a2.trans s3) (by rw [e2] at h3; exact h3)
theorem one_of {G : Hp} {xs : List V} {s : Sl} (h : Paired (SlOk K G) xs [s]) : ∃ v, xs = [v] ∧ SlOk K G v s := by
  cases h with
  | cons a t => cases t; exact ⟨_, rfl, a⟩
theorem two_of {G : Hp} {xs : List V} {s s' : Sl} (h : Paired (SlOk K G) xs [s, s']) : ∃ v w, xs = [v, w] ∧ SlOk K G v s ∧ SlOk K G w s' := by
  cases h with
  | cons a t =>
    cases t with
    | cons b t => cases t; exact ⟨_, _, rfl, a, b⟩
theorem SqL.vis {a : Addr} {xs : List V} {X : List Addr} (h : Rd (hid X H) a (.lst xs)) : SqL K H a xs := .inl (Rd.mono (hid_le X H) h)
theorem SqT.vis {a : Addr} {xs : List V} {X : List Addr} (h : SqT K (hid X H) a xs) : SqT K H a xs := SqT.mono (hid_le X H) h
/-! ### built-ins -/
def rAbs : List V → Hp → VK → Prop := fun xs H Q => ∃ i, xs = [.int i] ∧ Q (.int (if i < 0 then -i else i)) H
def rMax2 : List V → Hp → VK → Prop := fun xs H Q => ∃ i j, xs = [.int i, .int j] ∧ Q (.int (if j > i then j else i)) H
def rMin2 : List V → Hp → VK → Prop := fun xs H Q => ∃ i j, xs = [.int i, .int j] ∧ Q (.int (if j < i then j else i)) H
def rInt1 : List V → Hp → VK → Prop := fun xs H Q => (∃ i, xs = [.int i] ∧ Q (.int i) H) ∨ ∃ k, xs = [.bl k] ∧ Q (.int (if k then 1 else 0)) H
def rLen (K : PySem.W.Frag) : List V → Hp → VK → Prop := fun xs H Q => ∃ p ys, xs = [.ref p] ∧ (SqL K H p ys ∨ SqT K H p ys) ∧ Q (.int ys.length) H
def rListOf (K : PySem.W.Frag) : List V → Hp → VK → Prop := fun xs H Q => ∃ p ys, xs = [.ref p] ∧ (SqL K H p ys ∨ SqT K H p ys) ∧ ∀ l, H l = none → Q (.ref l) (upd H l (.lst ys))
theorem c_abs {X : Cx} : CallR X (.builtin "abs") rAbs := call_abs
theorem c_max2 {X : Cx} (hc : X.calm = true) : CallR X (.builtin "max") rMax2 := call_max2 hc
theorem c_min2 {X : Cx} (hc : X.calm = true) : CallR X (.builtin "min") rMin2 := call_min2 hc
theorem c_int1 {X : Cx} : CallR X (.type "int") rInt1 := call_int1
theorem c_len {X : Cx} : CallR X (.builtin "len") (rLen X.K) := call_len_seq
theorem c_list {X : Cx} : CallR X (.type "list") (rListOf X.K) := call_list_of
theorem ev_abs {i : Int} (ha : EvA K tr ρ M [.dat (.int i)] M1) : Ev K (tCB rAbs tr) ρ M (.dat (.int (i.natAbs : Int))) M1 := ev_cb ha fun F L σ H xs o hx Q q => by
  obtain ⟨v, rfl, h⟩ := one_of hx
  rw [int_of h]
  refine ⟨i, rfl, q _ H (Same.refl H) ?_⟩
  rw [show (if i < 0 then -i else i) = (i.natAbs : Int) by split <;> omega]
  exact .int _
theorem ev_max2 {i j : Int} (ha : EvA K tr ρ M [.dat (.int i), .dat (.int j)] M1) : Ev K (tCB rMax2 tr) ρ M (.dat (.int (max i j))) M1 := ev_cb ha fun F L σ H xs o hx Q q => by
  obtain ⟨v, w, rfl, h, h'⟩ := two_of hx
  rw [int_of h, int_of h']
  refine ⟨i, j, rfl, q _ H (Same.refl H) ?_⟩
  rw [show (if j > i then j else i) = max i j by omega]
  exact .int _
theorem ev_min2 {i j : Int} (ha : EvA K tr ρ M [.dat (.int i), .dat (.int j)] M1) : Ev K (tCB rMin2 tr) ρ M (.dat (.int (min i j))) M1 := ev_cb ha fun F L σ H xs o hx Q q => by
  obtain ⟨v, w, rfl, h, h'⟩ := two_of hx
  rw [int_of h, int_of h']
  refine ⟨i, j, rfl, q _ H (Same.refl H) ?_⟩
  rw [show (if j < i then j else i) = min i j by omega]
  exact .int _
theorem ev_intB {b : Bool} (ha : EvA K tr ρ M [.dat (.bool b)] M1) : Ev K (tCB rInt1 tr) ρ M (.dat (.int (if b = true then 1 else 0))) M1 := ev_cb ha fun F L σ H xs o hx Q q => by
  obtain ⟨v, rfl, h⟩ := one_of hx
  rw [bl_of h]
  exact .inr ⟨b, rfl, q _ H (Same.refl H) (.int _)⟩
theorem ev_lenL (ha : EvA K tr ρ M [.dat (.list ds)] M1) : Ev K (tCB (rLen K) tr) ρ M (.dat (.int (ds.length : Int))) M1 := ev_cb ha fun F L σ H xs o hx Q q => by
  obtain ⟨v, rfl, h⟩ := one_of hx
  obtain ⟨a, ys, rfl, h1, h2⟩ := list_of h
  refine ⟨a, ys, rfl, .inl (SqL.vis h1), q _ H (Same.refl H) ?_⟩
  rw [h2.length]; exact .int _
theorem ev_lenT (ha : EvA K tr ρ M [.dat (.tuple ds)] M1) : Ev K (tCB (rLen K) tr) ρ M (.dat (.int (ds.length : Int))) M1 := ev_cb ha fun F L σ H xs o hx Q q => by
  obtain ⟨v, rfl, h⟩ := one_of hx
  obtain ⟨a, ys, rfl, h1, h2⟩ := tup_of h
  refine ⟨a, ys, rfl, .inr (SqT.vis h1), q _ H (Same.refl H) ?_⟩
  rw [h2.length]; exact .int _
theorem evn_listL (ha : EvA K tr ρ M [.dat (.list ds)] M1) : EvN K (tCB (rListOf K) tr) ρ M ds M1 := evn_cb ha fun F L σ H xs o hx Q q => by
  obtain ⟨v, rfl, h⟩ := one_of hx
  obtain ⟨a, ys, rfl, h1, h2⟩ := list_of h
  exact ⟨a, ys, rfl, .inl (SqL.vis h1), fun l hl => q l ys hl h2⟩
theorem evn_listT (ha : EvA K tr ρ M [.dat (.tuple ds)] M1) : EvN K (tCB (rListOf K) tr) ρ M ds M1 := evn_cb ha fun F L σ H xs o hx Q q => by
  obtain ⟨v, rfl, h⟩ := one_of hx
  obtain ⟨a, ys, rfl, h1, h2⟩ := tup_of h
  exact ⟨a, ys, rfl, .inr (SqT.vis h1), fun l hl => q l ys hl h2⟩
theorem ev_allB {bs : List Bool} (ha : EvA K tr ρ M [.dat (.list (bs.map PyData.bool))] M1) : Ev K (tCB (rAll K) tr) ρ M (.dat (.bool (bs.all id))) M1 := ev_cb ha fun F L σ H xs o hx Q q => by
  obtain ⟨v, rfl, h⟩ := one_of hx
  obtain ⟨a, ys, rfl, h1, h2⟩ := list_of h
  have e := dp_bls h2
  subst e
  exact ⟨a, bs, rfl, SqL.vis h1, q _ H (Same.refl H) (.bl _)⟩
theorem ev_maxL {ns : List Int} {m : Int} (ha : EvA K tr ρ M [.dat (.list (ns.map PyData.int))] M1) (hm : m ∈ ns) (hx : ∀ y ∈ ns, y ≤ m) : Ev K (tCB (rMax K) tr) ρ M (.dat (.int m)) M1 := ev_cb ha fun F L σ H xs o hv Q q => by
  obtain ⟨v, rfl, h⟩ := one_of hv
  obtain ⟨a, ys, rfl, h1, h2⟩ := list_of h
  have e := dp_ints h2
  subst e
  refine ⟨a, ns, rfl, SqL.vis h1, List.length_pos_of_mem hm, fun k hk hle => ?_⟩
  have e : k = m := Int.le_antisymm (hx k hk) (hle m hm)
  subst e
  exact q _ H (Same.refl H) (.int _)
theorem ev_minL {ns : List Int} {m : Int} (ha : EvA K tr ρ M [.dat (.list (ns.map PyData.int))] M1) (hm : m ∈ ns) (hx : ∀ y ∈ ns, m ≤ y) : Ev K (tCB (rMin K) tr) ρ M (.dat (.int m)) M1 := ev_cb ha fun F L σ H xs o hv Q q => by
  obtain ⟨v, rfl, h⟩ := one_of hv
  obtain ⟨a, ys, rfl, h1, h2⟩ := list_of h
  have e := dp_ints h2
  subst e
  refine ⟨a, ns, rfl, SqL.vis h1, List.length_pos_of_mem hm, fun k hk hle => ?_⟩
  have e : k = m := Int.le_antisymm (hle m hm) (hx k hk)
  subst e
  exact q _ H (Same.refl H) (.int _)
/-! ### subscripts and slices -/
theorem atI_dp {vs : List V} {ds : List PyData} {i : Int} {d : PyData} (h : DpAll K H vs ds) (e : atI ds i = some d) : ∃ v, atI vs i = some v ∧ Dp K H v d := by
  unfold atI at e ⊢
  rw [h.length]
  cases q : ixN ds.length i with
  | none => rw [q] at e; cases e
  | some j =>
    rw [q] at e
    exact h.get e
theorem ev_ixL {i : Int} (ha : Ev K ta ρ M (.dat (.list ds)) M1) (hb : Ev K ti ρ M1 (.dat (.int i)) M2) (e : atI ds i = some d) : Ev K (tOp (rIxL K) ta ti) ρ M (.dat d) M2 := ev_op ha hb fun F L σ H x y o hx hy Q q => by
  obtain ⟨a, ys, rfl, h1, h2⟩ := list_of hx
  obtain ⟨v, e1, h3⟩ := atI_dp h2 e
  exact ⟨a, ys, i, v, rfl, int_of hy, SqL.vis h1, e1, q v H (Same.refl H) h3⟩
theorem ev_ixT {i : Int} (ha : Ev K ta ρ M (.dat (.tuple ds)) M1) (hb : Ev K ti ρ M1 (.dat (.int i)) M2) (e : atI ds i = some d) : Ev K (tOp (rIxT K) ta ti) ρ M (.dat d) M2 := ev_op ha hb fun F L σ H x y o hx hy Q q => by
  obtain ⟨a, ys, rfl, h1, h2⟩ := tup_of hx
  obtain ⟨v, e1, h3⟩ := atI_dp h2 e
  exact ⟨a, ys, i, v, rfl, int_of hy, SqT.vis h1, e1, q v H (Same.refl H) h3⟩
theorem atI_pos {α : Type} {xs : List α} {i : Int} (h0 : 0 ≤ i) (h1 : i < xs.length) : atI xs i = xs[i.toNat]? := by
  unfold atI ixN
  rw [if_pos h0, if_pos h1] <;> rfl
theorem atI_neg1 {α : Type} {xs : List α} (h1 : 0 < xs.length) : atI xs (-1) = xs[xs.length - 1]? := by
  unfold atI ixN
  rw [if_neg (by omega), if_pos (by omega)]
  show xs[((-1 : Int) + xs.length).toNat]? = _
  rw [show ((-1 : Int) + xs.length).toNat = xs.length - 1 by omega]
/-- an object that changes, read by place -/
theorem ev_ixM {i : Int} {p : Addr} (ha : Ev K ta ρ M (.loc (.ref p)) M1) (hb : Ev K ti ρ M1 (.dat (.int i)) M2) (hp : (p, MO.lst ds) ∈ M2) (e : atI ds i = some d) : Ev K (tOp (rIxL K) ta ti) ρ M (.dat d) M2 := ev_op ha hb fun F L σ H x y o hx hy Q q => by
  have ex : x = .ref p := hx
  subst ex
  obtain ⟨vs, h1, h2⟩ := o.ob _ hp
  obtain ⟨v, e1, h3⟩ := atI_dp h2 e
  exact ⟨p, vs, i, v, rfl, int_of hy, SqL.of h1, e1, q v H (Same.refl H) h3⟩
theorem ev_lenM {p : Addr} (ha : EvA K tr ρ M [.loc (.ref p)] M1) (hp : (p, MO.lst ds) ∈ M1) : Ev K (tCB (rLen K) tr) ρ M (.dat (.int (ds.length : Int))) M1 := ev_cb ha fun F L σ H xs o hx Q q => by
  obtain ⟨v, rfl, h⟩ := one_of hx
  have ex : v = .ref p := h
  subst ex
  obtain ⟨vs, h1, h2⟩ := o.ob _ hp
  refine ⟨p, vs, rfl, .inl (SqL.of h1), q _ H (Same.refl H) ?_⟩
  rw [h2.length]; exact .int _
theorem ev_lenScr {ns : List Int} (ha : EvA K tr ρ M [.dat (dScr ns)] M1) : Ev K (tCB (rLen K) tr) ρ M (.dat (.int (ns.length : Int))) M1 := ev_cb ha fun F L σ H xs o hx Q q => by
  obtain ⟨v, rfl, h⟩ := one_of hx
  obtain ⟨a, rfl, h1⟩ := scr_of h
  refine ⟨a, ns.map V.int, rfl, .inl ((hid_le _ _).seq h1), q _ H (Same.refl H) ?_⟩
  rw [List.length_map]; exact .int _
theorem ev_ixScr {ns : List Int} {i : Int} (ha : Ev K ta ρ M (.dat (dScr ns)) M1) (hb : Ev K ti ρ M1 (.dat (.int i)) M2) (h0 : 0 ≤ i) (h1 : i < ns.length) : Ev K (tOp (rIxL K) ta ti) ρ M (.dat (.int (ns.getD i.toNat 0))) M2 := ev_op ha hb fun F L σ H x y o hx hy Q q => by
  obtain ⟨a, rfl, h2⟩ := scr_of hx
  refine ⟨a, ns.map V.int, i, .int (ns.getD i.toNat 0), rfl, int_of hy, (hid_le _ _).seq h2, ?_, q _ H (Same.refl H) (.int _)⟩
  have hi : i.toNat < ns.length := by omega
  rw [atI_pos h0 (by rw [List.length_map]; exact h1), List.getElem?_map, List.getD_eq_getElem?_getD, List.getElem?_eq_getElem hi]
  rfl
/-- a part of a slice -/
def EvO (K : PySem.W.Frag) (to : TO) (ρ : List Sl) (M : Ms) (i : Option Int) (M' : Ms) : Prop := ∀ F L σ H, Ok K F L σ H ρ M → ∀ Q : Option Int → Hp → Prop, (∀ H1, Ok K F L σ H1 ρ M' → ad M' = ad M → Same (hid (ad M) H) H1 → Q i H1) → to σ H Q
theorem eo_no : EvO K tNoPart ρ M none M := fun F L σ H o Q q => q H o rfl (hid_le _ _)
theorem eo_some {i : Int} (h : Ev K te ρ M (.dat (.int i)) M1) : EvO K (tPart te) ρ M (some i) M1 := fun F L σ H o Q q => h F L σ H o _ fun x H1 o1 e1 a1 x1 => ⟨i, int_of x1, q H1 o1 e1 a1⟩
def cutD (xs : List PyData) (lo hi : Option Int) : List PyData := (xs.drop (HT.sIx xs.length 0 lo)).take (HT.sIx xs.length xs.length hi - HT.sIx xs.length 0 lo)
theorem cut_dp {vs : List V} {lo hi : Option Int} (h : DpAll K H vs ds) : DpAll K H (cutV vs lo hi) (cutD ds lo hi) := by
  unfold cutV cutD
  rw [h.length]
  exact (h.drop _).take _
theorem evn_slL {tl th : TO} {lo hi : Option Int} (ha : Ev K ta ρ M (.dat (.list ds)) M1) (hl : EvO K tl ρ M1 lo M2) (hh : EvO K th ρ M2 hi M3) : EvN K (tSl (rSlL K) ta tl th) ρ M (cutD ds lo hi) M3 := fun F L σ H o Q q =>
  ha F L σ H o _ fun x H1 o1 e1 a1 x1 => hl F L σ H1 o1 _ fun H2 o2 e2 a2 => hh F L σ H2 o2 _ fun H3 o3 e3 a3 => by
    have x3 := later (e2.trans e1) a3 (later e1 a2 x1)
    obtain ⟨a, ys, rfl, h1, h2⟩ := list_of x3
    have a13 := chain2 (e2.trans e1) (chain2 e1 a1 a2) a3
    have e13 := e3.trans (e2.trans e1)
    exact ⟨a, ys, rfl, SqL.vis h1, fun p hp => q p _ _ (back_none o o3 e13 a13 hp) (o3.lay hp) e13 (a13.trans (same_new hp)) upd_same (DpAll.mono (same_lay hp) (cut_dp h2))⟩
/-! ### lists: +, * -/
def rCatL : R2 := fun x y H Q => ∃ l b xs zs, x = .ref l ∧ y = .ref b ∧ Rd H l (.lst xs) ∧ Rd H b (.lst zs) ∧ xs.length + zs.length ≤ sizeLine ∧ ∀ p, H p = none → Q (.ref p) (upd H p (.lst (xs ++ zs)))
theorem inv_rd {X : Cx} {pins : List (Addr × Obj)} {s : Shared} {l : Addr} {xs : List V} (I : Inv X pins σ H s) (h : Rd H l (.lst xs)) : xs.length ≤ sizeLine ∧ ∃ (its : List Value) (n : Nat), Vals xs its ∧ xs.length = its.length ∧ s.heap.get? l = some { cls := .type "list", data := .seq its.toArray n } := by
  obtain ⟨z, its, n, r, e⟩ := h.ok I.hok
  exact ⟨z, its, n, r, r.length, e⟩
theorem o_cat {X : Cx} : OpR X (binaryOp .Add) rCatL := by
  intro pins s σ H x y v u Q I rx ry h
  obtain ⟨l, b, xs, zs, rfl, rfl, hH, hB, hz, q⟩ := h
  cases rx
  cases ry
  obtain ⟨z, its, n, r, hl, e⟩ := inv_rd I hH
  obtain ⟨z2, its2, n2, r2, hl2, e2⟩ := inv_rd I hB
  refine PySem.P.add_list e e2 ?_ (by rw [List.size_toArray, List.size_toArray]; omega)
  have ea : its.toArray ++ its2.toArray = (its ++ its2).toArray := by simp
  rw [ea]
  exact ⟨.ref _, _, I.lnew (t' := s.toks) (r.append r2) (by rw [List.length_append]; omega), rfl, q _ I.fresh⟩
theorem evn_cat (ha : Ev K ta ρ M (.dat (.list ds)) M1) (hb : Ev K tb ρ M1 (.dat (.list es)) M2) (hz : ds.length + es.length ≤ 1000000 := by simp; omega) : EvN K (tOp rCatL ta tb) ρ M (ds ++ es) M2 := evn_op ha hb fun F L σ H x y o hx hy Q q => by
  obtain ⟨a, xs, rfl, h1, h2⟩ := list_of hx
  obtain ⟨b, ys, rfl, h3, h4⟩ := list_of hy
  exact ⟨a, b, xs, ys, rfl, rfl, Rd.mono (hid_le _ _) h1, Rd.mono (hid_le _ _) h3, by rw [h2.length, h4.length]; exact line_of hz, fun p hp => q p _ hp (h2.append h4)⟩
def rRepL : R2 := fun x y H Q => ∃ l k xs, x = .ref l ∧ y = .int k ∧ Rd H l (.lst xs) ∧ -(2 ^ 63) ≤ k ∧ k < 2 ^ 63 ∧ xs.length * k.toNat ≤ sizeLine ∧
  ∀ p, H p = none → Q (.ref p) (upd H p (.lst (List.replicate k.toNat xs).flatten))
theorem o_rep {X : Cx} : OpR X (binaryOp .Mult) rRepL := by
  intro pins s σ H x y v u Q I rx ry h
  obtain ⟨l, k, xs, rfl, rfl, hH, h1, h2, hz, q⟩ := h
  rcases hH with hH | ⟨ob, hH⟩
  · exact op_rep pins s σ H _ _ v u Q I rx ry ⟨l, k, xs, rfl, rfl, hH, h1, h2, hz, q⟩
  · cases rx
    obtain ⟨t, rfl⟩ := ry
    obtain ⟨z, its, n, r, hl, e⟩ := inv_rd I (.inr ⟨ob, hH⟩)
    have hlen : its.toArray.size * k.toNat ≤ sizeLine := by rw [List.size_toArray, ← hl]; exact hz
    have hcap : ¬ its.toArray.size * k.toNat > (2 ^ 63 - 1) / 8 := by
      have : (sizeLine : Nat) ≤ (2 ^ 63 - 1) / 8 := by decide
      omega
    have hfit : ¬ (!Builtin.List.listFitsIndex k) = true := by
      rw [fitsIndex_both h1 h2]
      exact Bool.false_ne_true
    have hlong : ¬ Builtin.List.listTooLong (its.toArray.size * k.toNat) = true := by
      rw [notLongL hlen]
      exact Bool.false_ne_true
    have hnew : List.foldl (fun x1 x2 => x1 ++ x2) #[] (List.replicate (if its.toArray.isEmpty = true then 0 else k.toNat) its.toArray) = (List.replicate k.toNat its).flatten.toArray := by
      have f0 : ∀ m : Nat, List.foldl (fun x1 x2 => x1 ++ x2) #[] (List.replicate m its.toArray) = (List.replicate m its).flatten.toArray := fun m => by
        have := foldl_rep its m []
        rw [List.nil_append] at this
        exact this
      rw [f0]
      cases its with
      | nil => simp
      | cons a r' => rw [if_neg (by simp)]
    refine wpAny_binaryOp_repeat_ref (T := "list") (U := "int") (by decide) ⟨_, e, rfl⟩ (fun s' => typeIs_int s' k t) noFill_list_mul F.fills_int_mul F.slot_int_rmul repeat_list F.slot_int_index.lookup
      (call_meets F.slot_int_rmul (typeIs_int s k t) F.entry_int_rmul (F.args_int_rmul_2 _ _) (int___rmul___int_list k t l its.toArray n)
        ⟨e, rfl, ⟨_, e, rfl⟩, call_meets F.slot_list_mul ⟨_, e, rfl⟩ F.entry_list_mul (F.args_list_mul_2 _ _) (AutoListH.list___mul___list_int_3 l its.toArray n k t hfit hcap hlong) ⟨e, ?_⟩⟩)
    rw [hnew]
    exact ⟨.ref _, _, I.lnew (t' := s.toks) (r.rep k.toNat) (by rw [PyProof.Rows.lm_len_rep_flat, Nat.mul_comm]; exact hz), rfl, q _ I.fresh⟩
theorem dp_rep {vs : List V} {ds : List PyData} (h : DpAll K H vs ds) : ∀ n : Nat, DpAll K H (List.replicate n vs).flatten (List.replicate n ds).flatten
  | 0 => .nil
  | n + 1 => by
    rw [List.replicate_succ, List.replicate_succ, List.flatten_cons, List.flatten_cons]
    exact h.append (dp_rep h n)
theorem evn_rep {k : Int} (ha : Ev K ta ρ M (.dat (.list ds)) M1) (hb : Ev K tb ρ M1 (.dat (.int k)) M2) (hk : k ≤ 1000) (hz : ds.length ≤ 1000) (h0 : -1000 ≤ k) : EvN K (tOp rRepL ta tb) ρ M (List.replicate k.toNat ds).flatten M2 := evn_op ha hb fun F L σ H x y o hx hy Q q => by
  obtain ⟨a, xs, rfl, h1, h2⟩ := list_of hx
  refine ⟨a, k, xs, rfl, int_of hy, Rd.mono (hid_le _ _) h1, by omega, by omega, ?_, fun p hp => q p _ hp (dp_rep h2 _)⟩
  rw [h2.length]
  exact Nat.le_trans (Nat.mul_le_mul hz (show k.toNat ≤ 1000 by omega)) (by decide)
end
end Wm

namespace Wm
open PySem L2
section
variable {K : PySem.W.Frag} {F F' H H' H0 H1 : Hp} {L : List Addr} {σ : L2.St} {ρ ρ' : List Sl} {M M' M1 M2 M3 : Ms}
variable {te ta tb tc ti : TE} {tt : TT} {tr : TA} {s s1 s2 : Sl} {ss : List Sl} {d d1 d2 : PyData} {ds es : List PyData} {D : Ends} {tu tw : TS} {g : TG}
/-! ### statements -/
theorem s_asg {i : Nat} (h : Ev K te ρ M s M1) (k : ∀ σ H, Ok K F L σ H (ρ.set i s) M1 → D.nx σ H) (o : Ok K F L σ H ρ M) : tAsg te (gName i) D σ H := h F L σ H o _ fun v H1 o1 e1 a1 x1 => k _ _ (o1.set (by rw [e1]; exact x1))
/-- a name for a new list that will change -/
theorem s_asgN {i : Nat} (h : EvN K te ρ M ds M1) (k : ∀ p σ H, Ok K F L σ H (ρ.set i (.loc (.ref p))) (M1 ++ [(p, .lst ds)]) → D.nx σ H) (o : Ok K F L σ H ρ M) : tAsg te (gName i) D σ H := h F L σ H o _ fun p vs H1 hp o1 e1 a1 h1 h2 => by
  have hm : p ∉ ad M1 := by rw [e1]; exact mem_ad_of (Q := fun _ => True) o hp
  have hf : F p = none := o.fr.free hp
  refine k p _ _ (Ok.set (Ok.add o1.lift ?_ ?_ hm hf ?_) rfl)
  · exact o1.sl
  · exact o1.ob
  · exact ⟨vs, h1, by rw [e1]; exact h2⟩
theorem s_drop (h : Ev K te ρ M s M1) (k : ∀ σ H, Ok K F L σ H ρ M1 → D.nx σ H) (o : Ok K F L σ H ρ M) : tDrop te D σ H := h F L σ H o _ fun v H1 o1 e1 a1 x1 => k _ _ o1
theorem s_ret (h : Ev K te ρ M s M1) (k : ∀ v H1, Ok K F L σ H1 ρ M1 → SlOk K (hid (L ++ ad M1) H1) v s → D.rt v H1) (o : Ok K F L σ H ρ M) : tRet te D σ H := h F L σ H o _ fun v H1 o1 e1 a1 x1 => k v _ o1 (by rw [e1]; exact x1)
theorem s_retN (h : EvN K te ρ M ds M1) (k : ∀ p vs H1, F p = none → p ∉ L ++ ad M1 → Ok K F L σ H1 ρ M1 → H1 p = some (.lst vs) → DpAll K (hid (p :: (L ++ ad M1)) H1) vs ds → D.rt (.ref p) H1) (o : Ok K F L σ H ρ M) : tRet te D σ H := h F L σ H o _ fun p vs H1 hp o1 e1 a1 h1 h2 => k p vs H1 (o.fr.free hp) (by rw [e1]; exact o.fresh hp) o1.lift h1 (by rw [e1]; exact h2)
theorem s_if {b : Bool} (h : EvT K tt ρ M b M1) (h1 : b = true → ∀ H, Ok K F L σ H ρ M1 → tu D σ H) (h2 : b = false → ∀ H, Ok K F L σ H ρ M1 → tw D σ H) (o : Ok K F L σ H ρ M) : tIfS tt tu tw D σ H := h F L σ H o _ fun H1 o1 e1 a1 => by
  cases b with
  | true => exact h1 rfl H1 o1
  | false => exact h2 rfl H1 o1
theorem s_ifT (h : EvT K tt ρ M true M1) (h1 : ∀ H, Ok K F L σ H ρ M1 → tu D σ H) (o : Ok K F L σ H ρ M) : tIfS tt tu tw D σ H := s_if h (fun _ => h1) (fun z => nomatch z) o
theorem s_ifF (h : EvT K tt ρ M false M1) (h1 : ∀ H, Ok K F L σ H ρ M1 → tw D σ H) (o : Ok K F L σ H ρ M) : tIfS tt tu tw D σ H := s_if h (fun z => nomatch z) (fun _ => h1) o
/-- the ways of t meet again ahead of u -/
theorem s_seqJ {tu tw : TS} (J : List Sl → Ms → Prop) (k : ∀ ρ M, J ρ M → ∀ σ H, Ok K F L σ H ρ M → tw D σ H) (h : (∀ ρ M, J ρ M → ∀ σ H, Ok K F L σ H ρ M → tw D σ H) → tu { D with nx := tw D } σ H) : tSeq tu tw D σ H := h k
/-! ### objects that change: xs.append(e), xs[i] = e -/
theorem ad_set {M : Ms} {j : Nat} {p : Addr} {x y : MO} (hj : M[j]? = some (p, x)) : ad (M.set j (p, y)) = ad M := by
  apply List.ext_getElem?; intro i
  simp only [ad, List.getElem?_map, List.getElem?_set]
  by_cases e : j = i
  · subst e
    have hl : j < M.length := (List.getElem?_eq_some_iff.mp hj).1
    rw [if_pos rfl, if_pos hl, hj] <;> rfl
  · rw [if_neg e]
theorem mem_ad {M : Ms} {j : Nat} {p : Addr} {x : MO} (hj : M[j]? = some (p, x)) : p ∈ ad M := List.mem_map.mpr ⟨_, List.mem_of_getElem? hj, rfl⟩
theorem live_upd (o : Ok K F L σ H ρ M) {p : Addr} {x : HO} : ∀ a, a ∈ L → a ≠ p → upd H p x a ≠ none := fun a ha hn => by rw [upd_ne hn]; exact o.lv a ha
theorem Ok.changeL (o : Ok K F L σ H ρ M) {j : Nat} {p : Addr} {x : MO} {vs : List V} {es : List PyData} (hj : M[j]? = some (p, x)) (hv : DpAll K (hid (L ++ ad M) H) vs es) : Ok K F L σ (upd H p (.lst vs)) ρ (M.set j (p, .lst es)) :=
  o.change hj (same_hid_upd (by simp)) ⟨vs, upd_same, by rw [hid_upd (List.mem_append_right _ (mem_ad hj))]; exact hv⟩ (live_upd o)
theorem s_app {p : Addr} {j : Nat} {ds0 : List PyData} (ha : Ev K ta ρ M (.loc (.ref p)) M) (h : Ev K te ρ M (.dat d) M1) (hj0 : M[j]? = some (p, .lst ds0)) (hj : M1[j]? = some (p, .lst ds)) (hz : ds.length < 1000000) (k : ∀ σ H, Ok K F L σ H ρ (M1.set j (p, .lst (ds ++ [d]))) → D.nx σ H) (o : Ok K F L σ H ρ M) :
    tDrop (tBM K "list" rAppend ta (tCons te tNil)) D σ H := ha F L σ H o _ fun x H1 o1 e1 a1 x1 => by
  have ex : x = .ref p := x1
  subst ex
  obtain ⟨vs0, h0, _⟩ := o1.ob _ (List.mem_of_getElem? hj0)
  refine ⟨.inl ⟨rfl, vs0, SqL.of h0⟩, h F L σ H1 o1 _ fun y H2 o2 e2 a2 y2 => ?_⟩
  obtain ⟨vs, h1, h2⟩ := o2.ob _ (List.mem_of_getElem? hj)
  refine ⟨p, vs, y, rfl, rfl, h1, by rw [h2.length]; exact line_lt hz, ?_⟩
  refine k _ _ (o2.changeL hj (h2.append (.cons ?_ .nil)))
  rw [e2]; exact y2
/-- xs[i] = e -/
theorem s_setL {p : Addr} {j n : Nat} {i : Int} (h : Ev K te ρ M (.dat d) M1) (ha : Ev K ta ρ M1 (.loc (.ref p)) M2) (hi : Ev K ti ρ M2 (.dat (.int i)) M3) (hj : M3[j]? = some (p, .lst ds)) (hn : ixN ds.length i = some n) (k : ∀ σ H, Ok K F L σ H ρ (M3.set j (p, .lst (ds.set n d))) → D.nx σ H) (o : Ok K F L σ H ρ M) :
    tAsg te (gSub ta ti rSetL) D σ H := h F L σ H o _ fun y H1 o1 e1 a1 y1 => ha F L σ H1 o1 _ fun x H2 o2 e2 a2 x2 => hi F L σ H2 o2 _ fun w H3 o3 e3 a3 w3 => by
  have ex : x = .ref p := x2
  subst ex
  obtain ⟨vs, h1, h2⟩ := o3.ob _ (List.mem_of_getElem? hj)
  refine ⟨p, vs, i, n, rfl, int_of w3, h1, by rw [h2.length]; exact hn, ?_⟩
  refine k _ _ (o3.changeL hj (DpAll.set ?_ n h2))
  have y3 : SlOk K (hid (L ++ ad M) H3) y (.dat d) := later (e2.trans e1) a3 (later e1 a2 y1)
  rw [show ad M3 = ad M from e3.trans (e2.trans e1)]; exact y3
/-! ### targets of two and more names -/
theorem g_tup {Qc : L2.St → Hp → Prop} {n : Nat} {t : TGs} {v : V} (h : Dp K H v (.tuple ds)) (hl : ds.length = n) (k : ∀ vs, DpAll K H vs ds → t vs σ H0 Qc) (s : Same H H0) : gTup K n t v σ H0 Qc := by
  obtain ⟨a, xs, rfl, h1, h2⟩ := tup_of (K := K) (H := H) (v := v) (ds := ds) h
  exact ⟨a, xs, rfl, SqT.mono s h1, h2.length.trans hl, k xs h2⟩
theorem g_cons {Qc : L2.St → Hp → Prop} {t : TG} {u : TGs} {v : V} {r : List V} (h : t v σ H fun σ' H' => u r σ' H' Qc) : gCons t u (v :: r) σ H Qc := ⟨v, r, rfl, h⟩
theorem g_nil {Qc : L2.St → Hp → Prop} (h : Qc σ H) : gNil [] σ H Qc := ⟨rfl, h⟩
/-- a, b = e, e a tuple of two data -/
theorem s_asg2 {i j : Nat} (h : Ev K te ρ M (.dat (.tuple [d1, d2])) M1) (k : ∀ σ H, Ok K F L σ H ((ρ.set i (.dat d1)).set j (.dat d2)) M1 → D.nx σ H) (o : Ok K F L σ H ρ M) : tAsg te (gTup K 2 (gCons (gName i) (gCons (gName j) gNil))) D σ H := h F L σ H o _ fun v H1 o1 e1 a1 x1 => by
  refine g_tup x1 rfl (fun vs hv => ?_) (hid_le _ _)
  cases hv with
  | cons h1 hv =>
    cases hv with
    | cons h2 hv =>
      cases hv
      refine g_cons (g_cons (g_nil (k _ _ (Ok.set (Ok.set o1 ?_) ?_))))
      · show Dp K _ _ _; rw [e1]; exact h1
      · show Dp K _ _ _; rw [e1]; exact h2
theorem s_par {i j : Nat} {ta : TA} (h : EvA K ta ρ M [s1, s2] M1) (k : ∀ σ H, Ok K F L σ H ((ρ.set i s1).set j s2) M1 → D.nx σ H) (o : Ok K F L σ H ρ M) : tPar i j ta D σ H := h F L σ H o _ fun vs H1 o1 e1 a1 x1 => by
  obtain ⟨v, w, rfl, h1, h2⟩ := two_of x1
  exact ⟨v, w, rfl, k _ _ (Ok.set (Ok.set o1 (by rw [e1]; exact h1)) (by rw [e1]; exact h2))⟩
/-! ### calls -/
/-- a def that changes nothing of what stands: R of the arguments' data and the answer's -/
def spP (K : PySem.W.Frag) (R : List PyData → PyData → Prop) : Sp := fun vs H Q _ => ∃ L ds r, (∀ p ∈ L, H p ≠ none) ∧ DpAll K (hid L H) vs ds ∧ R ds r ∧ ∀ v H1, Same H H1 → Dp K (hid L H1) v r → Q v H1
/-- .. and hands back a new list -/
def spN (K : PySem.W.Frag) (R : List PyData → List PyData → Prop) : Sp := fun vs H Q _ => ∃ L ds rs, (∀ p ∈ L, H p ≠ none) ∧ DpAll K (hid L H) vs ds ∧ R ds rs ∧ ∀ p us H1, Same H H1 → H p = none → H1 p = some (.lst us) → DpAll K (hid (p :: L) H1) us rs → Q (.ref p) H1
/-- its first argument is an object that it changes -/
def spM (K : PySem.W.Frag) (R : MO → List PyData → PyData → MO → Prop) : Sp := fun vs H Q _ => ∃ L p us x ds r x', vs = .ref p :: us ∧ (∀ q ∈ L, H q ≠ none) ∧ p ∈ L ∧ MOk K (hid L H) H p x ∧ DpAll K (hid L H) us ds ∧ R x ds r x' ∧
  ∀ v H1, Same (hid [p] H) H1 → MOk K (hid L H1) H1 p x' → Dp K (hid L H1) v r → Q v H1
/-- .. and it hands back a new list -/
def spMN (K : PySem.W.Frag) (R : MO → List PyData → List PyData → MO → Prop) : Sp := fun vs H Q _ => ∃ L p us x ds rs x', vs = .ref p :: us ∧ (∀ q ∈ L, H q ≠ none) ∧ p ∈ L ∧ MOk K (hid L H) H p x ∧ DpAll K (hid L H) us ds ∧ R x ds rs x' ∧
  ∀ q ws H1, Same (hid [p] H) H1 → H q = none → MOk K (hid (q :: L) H1) H1 p x' → H1 q = some (.lst ws) → DpAll K (hid (q :: L) H1) ws rs → Q (.ref q) H1
theorem ev_call {R : List PyData → PyData → Prop} {E : XK} {r : PyData} (ha : EvA K tr ρ M (ds.map Sl.dat) M1) (hR : R ds r) : Ev K (tCall (spP K R) [] E tr) ρ M (.dat r) M1 := fun F L σ H o Q q => ha F L σ H o _ fun vs H1 o1 e1 a1 x1 => by
  refine ⟨L ++ ad M, ds, r, fun p hp => o1.there (by rw [e1]; exact hp), by rw [List.append_nil]; exact dpAll_of x1, hR, fun v H2 s2 h2 => ?_⟩
  exact q v H2 (o1.mono s2) e1 (a1.trans s2) h2
theorem same_layN {X : List Addr} {p : Addr} (s : Same H H1) (hp : H p = none) : Same (hid X H) (hid (p :: X) H1) := fun a x e => by
  obtain ⟨n, e2⟩ := hid_some e
  rw [hid_out (by rw [List.mem_cons]; rintro (z | z); exact ne_of_none e2 hp z; exact n z)]; exact s _ _ e2
theorem Ok.layN (o1 : Ok K F L σ H ρ M) {p : Addr} {us : List V} (s2 : Same H H1) (hp : H p = none) (h1 : H1 p = some (.lst us)) : Ok K F (p :: L) σ H1 ρ M where
  sl := Paired.mapP o1.sl fun _ _ q => q.mono (same_layN s2 hp)
  ob := fun y hy => by
    obtain ⟨z, e⟩ := (o1.ob y hy).there
    exact (o1.ob y hy).mono (same_layN s2 hp) ((s2 _ _ e).trans e.symm)
  nd := o1.nd
  fr := o1.fr.trans s2
  fn := o1.fn
  lv := fun a ha z => by
    rcases List.mem_cons.mp ha with e | e
    · rw [e, h1] at z; cases z
    · exact (o1.mono s2).lv a e z
theorem evn_call {R : List PyData → List PyData → Prop} {E : XK} {rs : List PyData} (ha : EvA K tr ρ M (ds.map Sl.dat) M1) (hR : R ds rs) : EvN K (tCall (spN K R) [] E tr) ρ M rs M1 := fun F L σ H o Q q => ha F L σ H o _ fun vs H1 o1 e1 a1 x1 => by
  refine ⟨L ++ ad M, ds, rs, fun p hp => o1.there (by rw [e1]; exact hp), by rw [List.append_nil]; exact dpAll_of x1, hR, fun p us H2 s2 hp h1 h2 => ?_⟩
  exact q p us H2 (back_none o o1 e1 a1 hp) (o1.layN s2 hp h1) e1 (a1.trans s2) h1 h2
theorem ev_callM {R : MO → List PyData → PyData → MO → Prop} {E : XK} {r : PyData} {p : Addr} {j : Nat} {x x' : MO} (ha : EvA K tr ρ M (.loc (.ref p) :: ds.map Sl.dat) M1) (hj : M1[j]? = some (p, x)) (hR : R x ds r x') : Ev K (tCall (spM K R) [] E tr) ρ M (.dat r) (M1.set j (p, x')) := fun F L σ H o Q q => ha F L σ H o _ fun vs H1 o1 e1 a1 x1 => by
  cases x1 with
  | cons hp0 x1 =>
    have ep : _ = V.ref p := hp0
    subst ep
    have hpm : p ∈ ad M1 := mem_ad hj
    refine ⟨L ++ ad M1, p, _, x, ds, r, x', by rw [List.append_nil], fun a ha => o1.there ha, List.mem_append_right _ hpm, o1.ob _ (List.mem_of_getElem? hj), dpAll_of (by rw [e1]; exact x1), hR, fun v H2 s2 h2 h3 => ?_⟩
    have o2 : Ok K F L σ H2 ρ (M1.set j (p, x')) := o1.change hj s2 h2 fun a ha hn z => by
      cases e : H1 a with
      | none => exact o1.lv a ha e
      | some y => rw [s2 a y (by rw [hid_out (by simpa using hn)]; exact e)] at z; cases z
    refine q v H2 o2 ((ad_set hj).trans e1) (chain2 e1 a1 fun a y e => s2 a y (hid_sub (fun b hb => ?_) _ _ e)) (by rw [← e1]; exact h3)
    have e3 : b = p := by simpa using hb
    rw [e3]; exact hpm
theorem evn_callM {R : MO → List PyData → List PyData → MO → Prop} {E : XK} {rs : List PyData} {p : Addr} {j : Nat} {x x' : MO} (ha : EvA K tr ρ M (.loc (.ref p) :: ds.map Sl.dat) M1) (hj : M1[j]? = some (p, x)) (hR : R x ds rs x') : EvN K (tCall (spMN K R) [] E tr) ρ M rs (M1.set j (p, x')) := fun F L σ H o Q q => ha F L σ H o _ fun vs H1 o1 e1 a1 x1 => by
  cases x1 with
  | cons hp0 x1 =>
    have ep : _ = V.ref p := hp0
    subst ep
    have hpm : p ∈ ad M1 := mem_ad hj
    refine ⟨L ++ ad M1, p, _, x, ds, rs, x', by rw [List.append_nil], fun a ha => o1.there ha, List.mem_append_right _ hpm, o1.ob _ (List.mem_of_getElem? hj), dpAll_of (by rw [e1]; exact x1), hR, fun l ws H2 s2 hl h2 h1 h3 => ?_⟩
    have hlp : l ≠ p := fun z => o1.there (List.mem_append_right L hpm) (by rw [← z]; exact hl)
    have vis : Same (hid (L ++ ad M1) H1) (hid (l :: (L ++ ad M1)) H2) := fun a y e => by
      obtain ⟨n, e2⟩ := hid_some e
      rw [hid_out (by rw [List.mem_cons]; rintro (z | z); exact ne_of_none e2 hl z; exact n z)]
      exact s2 _ _ (by rw [hid_out fun z => n (by have e3 : a = p := by simpa using z
                                                  rw [e3]; exact List.mem_append_right _ hpm)]; exact e2)
    have live : ∀ a, a ∈ L → a ≠ p → H2 a ≠ none := fun a ha hn z => by
      cases e : H1 a with
      | none => exact o1.lv a ha e
      | some y => rw [s2 a y (by rw [hid_out (by simpa using hn)]; exact e)] at z; cases z
    have o2 : Ok K F (l :: L) σ H2 ρ (M1.set j (p, x')) :=
      { sl := by rw [ad_set hj]; exact Paired.mapP o1.sl fun _ _ q => q.mono vis
        ob := fun y hy => by
          show MOk K (hid (l :: (L ++ ad (M1.set j (p, x')))) H2) H2 y.1 y.2
          rw [ad_set hj]
          obtain ⟨i, hi⟩ := List.mem_iff_getElem?.mp hy
          rw [List.getElem?_set] at hi
          by_cases e : j = i
          · rw [if_pos e] at hi
            split at hi
            · cases hi; exact h2
            · cases hi
          · rw [if_neg e] at hi
            have hzm : y ∈ M1 := List.mem_of_getElem? hi
            have ne : y.1 ≠ p := fun q => by
              have h1 : (ad M1)[i]? = some p := by simp only [ad, List.getElem?_map, hi, Option.map_some, q]
              have h2 : (ad M1)[j]? = some p := by simp only [ad, List.getElem?_map, hj, Option.map_some]
              exact e (((List.getElem?_inj (List.getElem?_eq_some_iff.mp h2).1 o1.nd).mp (h2.trans h1.symm)))
            obtain ⟨x', e'⟩ := (o1.ob y hzm).there
            refine (o1.ob y hzm).mono vis ?_
            rw [e']; exact s2 _ _ (by rw [hid_out (by simpa using ne)]; exact e')
        nd := by rw [ad_set hj]; exact o1.nd
        fr := fun a y e => s2 a y (by
          rw [hid_out]
          · exact o1.fr a y e
          · intro z
            have e3 : a = p := by simpa using z
            rw [e3, o1.fn _ hpm] at e; cases e)
        fn := fun a ha => o1.fn a (by rw [ad_set hj] at ha; exact ha)
        lv := fun a ha z => by
          rcases List.mem_cons.mp ha with e | e
          · rw [e, h1] at z; cases z
          · by_cases hn : a = p
            · obtain ⟨y, e3⟩ := h2.there
              rw [hn, e3] at z; cases z
            · exact live a e hn z }
    refine q l ws H2 (back_none o o1 e1 a1 hl) o2 ((ad_set hj).trans e1) (chain2 e1 a1 fun a y e => s2 a y (hid_sub (fun b hb => ?_) _ _ e)) h1 (by rw [← e1]; exact h3)
    have e3 : b = p := by simpa using hb
    rw [e3]; exact hpm
end
end Wm

namespace Wm
open PySem L2
section
variable {K : PySem.W.Frag} {F F' H H' H0 H1 : Hp} {L : List Addr} {σ σ' : L2.St} {ρ ρ' : List Sl} {M M' M1 M2 M3 Mn : Ms}
variable {te ta tb tc ti : TE} {tt : TT} {tr : TA} {s s1 s2 : Sl} {ss : List Sl} {d d1 d2 : PyData} {ds es : List PyData} {D : Ends} {tu tw : TS} {g : TG} {wi : TI} {n : Nat} {item : Nat → PyData}
/-! ### what is walked -/
def Walk (K : PySem.W.Frag) (F : Hp) (L : List Addr) (J : It) (n : Nat) (item : Nat → PyData) : Prop := ∀ i H, Same F H →
  (i < n → J.go i H ∧ ∀ x H', J.yld i H x H' → Same H H' ∧ ∀ Y : List Addr, (∀ a ∈ Y, (a ∈ L ∨ F a = none) ∧ H a ≠ none) → Dp K (hid Y H') x (item i)) ∧ (n ≤ i → J.stop i H)
def EvI (K : PySem.W.Frag) (wi : TI) (ρ : List Sl) (M : Ms) (n : Nat) (item : Nat → PyData) (M' : Ms) : Prop := ∀ F L σ H, Ok K F L σ H ρ M → ∀ R : It → Hp → Prop, (∀ J H1, Ok K F L σ H1 ρ M' → ad M' = ad M → Same (hid (ad M) H) H1 → Walk K (hid (ad M') H1) L J n item → R J H1) → wi σ H R
theorem hid_of {X : List Addr} {a : Addr} {o : HO} (n : a ∉ X) (h : H a = some o) : hid X H a = some o := by rw [hid_out n]; exact h
theorem vis_Y {X : List Addr} (s : Same (hid X H1) H') {Y : List Addr} (hY : ∀ a ∈ Y, a ∈ L ∨ hid X H1 a = none) : Same (hid (L ++ X) H1) (hid Y H') := fun a y e => by
  obtain ⟨n, e2⟩ := hid_some e
  have nX : a ∉ X := fun z => n (List.mem_append_right _ z)
  have e3 := hid_of nX e2
  rw [hid_out fun z => by
    rcases hY a z with q | q
    · exact n (List.mem_append_left _ q)
    · rw [e3] at q; cases q]
  exact s _ _ e3
theorem rd_same {a : Addr} {o : HO} (h : Rd H a o) (s : ∀ x, H a = some x → H' a = some x) : Rd H' a o := h.imp (s _) fun ⟨o, h⟩ => ⟨o, s _ h⟩
theorem ei_list (h : Ev K te ρ M (.dat (.list ds)) M1) : EvI K (iList K te) ρ M ds.length (fun i => ds.getD i .none) M1 := fun F L σ H o R q => h F L σ H o _ fun v H1 o1 e1 a1 x1 => by
  obtain ⟨a, xs, rfl, h1, h2⟩ := list_of x1
  rw [← e1] at h1 h2
  have na : a ∉ L ++ ad M1 := by
    rcases h1 with h1 | ⟨_, h1⟩
    · exact (hid_some h1).1
    · exact (hid_some h1).1
  have there : ∀ H2, Same (hid (ad M1) H1) H2 → SqL K H2 a xs := fun H2 s2 => .inl (rd_same (Rd.mono (hid_le _ _) h1) fun x e => s2 _ _ (hid_of (fun z => na (List.mem_append_right _ z)) e))
  refine ⟨a, rfl, ⟨xs, there H1 (hid_le _ _)⟩, q _ H1 o1 e1 a1 fun i H2 s2 => ⟨fun hi => ?_, fun hi => ⟨xs, there H2 s2, by rw [h2.length]; exact hi⟩⟩⟩
  have hx : i < xs.length := by rw [h2.length]; exact hi
  refine ⟨⟨xs, xs[i], there H2 s2, List.getElem?_eq_getElem hx⟩, fun x H3 hy => ?_⟩
  obtain ⟨rfl, fx⟩ := hy
  refine ⟨Same.refl _, fun Y hY => ?_⟩
  obtain ⟨d, hd, hdp⟩ := h2.getV (fx xs (there _ s2))
  dsimp only
  rw [List.getD_eq_getElem?_getD, hd]
  exact Dp.mono (vis_Y s2 fun a ha => (hY a ha).1) hdp
theorem ei_tup (h : Ev K te ρ M (.dat (.tuple ds)) M1) : EvI K (iTup K te) ρ M ds.length (fun i => ds.getD i .none) M1 := fun F L σ H o R q => h F L σ H o _ fun v H1 o1 e1 a1 x1 => by
  obtain ⟨a, xs, rfl, h1, h2⟩ := tup_of x1
  rw [← e1] at h1 h2
  have there : ∀ H2, Same (hid (ad M1) H1) H2 → SqT K H2 a xs := fun H2 s2 => SqT.mono s2 (SqT.mono (hid_sub fun _ z => List.mem_append_right _ z) h1)
  refine ⟨a, rfl, ⟨xs, there H1 (hid_le _ _)⟩, q _ H1 o1 e1 a1 fun i H2 s2 => ⟨fun hi => ?_, fun hi => ⟨xs, there H2 s2, by rw [h2.length]; exact hi⟩⟩⟩
  have hx : i < xs.length := by rw [h2.length]; exact hi
  refine ⟨⟨xs, xs[i], there H2 s2, List.getElem?_eq_getElem hx⟩, fun x H3 hy => ?_⟩
  obtain ⟨rfl, fx⟩ := hy
  refine ⟨Same.refl _, fun Y hY => ?_⟩
  obtain ⟨d, hd, hdp⟩ := h2.getV (fx xs (there _ s2))
  dsimp only
  rw [List.getD_eq_getElem?_getD, hd]
  exact Dp.mono (vis_Y s2 fun a ha => (hY a ha).1) hdp
theorem walk_rng {F : Hp} {lo : Int} {n : Nat} : Walk K F L (Itr lo n) n (fun i => .int (lo + i)) := fun i H s => ⟨fun hi => ⟨hi, fun x H' hy => by
  obtain ⟨rfl, rfl⟩ := hy
  exact ⟨Same.refl _, fun Y _ => .int _⟩⟩, fun hi => hi⟩
theorem ei_rng1 {j : Int} (h : EvA K tr ρ M [.dat (.int j)] M1) (h1 : -(2 ^ 62) ≤ j := by omega) (h2 : j < 2 ^ 62 := by omega) : EvI K (iRng1 tr) ρ M j.toNat (fun i => .int (i : Nat)) M1 := fun F L σ H o R q => h F L σ H o _ fun vs H1 o1 e1 a1 x1 => by
  obtain ⟨v, rfl, hv⟩ := one_of x1
  rw [int_of hv]
  refine ⟨j, rfl, h1, h2, q _ H1 o1 e1 a1 ?_⟩
  have w := walk_rng (K := K) (F := hid (ad M1) H1) (L := L) (lo := 0) (n := j.toNat)
  simpa only [Int.zero_add] using w
theorem ei_rng2 {i j : Int} (h : EvA K tr ρ M [.dat (.int i), .dat (.int j)] M1) (hb : -(2 ^ 62) ≤ i ∧ i < 2 ^ 62 ∧ -(2 ^ 62) ≤ j ∧ j < 2 ^ 62 := by omega) : EvI K (iRng2 tr) ρ M (j - i).toNat (fun k => .int (i + (k : Nat))) M1 := fun F L σ H o R q => h F L σ H o _ fun vs H1 o1 e1 a1 x1 => by
  obtain ⟨v, w, rfl, hv, hw⟩ := two_of x1
  rw [int_of hv, int_of hw]
  exact ⟨i, j, rfl, hb, q _ H1 o1 e1 a1 walk_rng⟩
theorem rngC_neg {i j : Int} (hb : -(2 ^ 62) ≤ i ∧ i < 2 ^ 62 ∧ -(2 ^ 62) ≤ j ∧ j < 2 ^ 62) : RgC i j (-1) (i - j).toNat := RgC.neg hb.1 hb.2.1 hb.2.2.1 hb.2.2.2
theorem ei_rng3 {i j c : Int} {n : Nat} (h : EvA K tr ρ M [.dat (.int i), .dat (.int j), .dat (.int c)] M1) (hr : RgC i j c n) : EvI K (iRng3 tr) ρ M n (fun k => .int (i + (k : Nat) * c)) M1 := fun F L σ H o R q => h F L σ H o _ fun vs H1 o1 e1 a1 x1 => by
  cases x1 with
  | cons hv x1 =>
    obtain ⟨v, w, rfl, hw, hu⟩ := two_of x1
    rw [int_of hv, int_of hw, int_of hu]
    refine ⟨i, j, c, n, rfl, hr, q _ H1 o1 e1 a1 fun k H2 s2 => ⟨fun hk => ⟨hk, fun x H3 hy => ?_⟩, fun hk => hk⟩⟩
    obtain ⟨rfl, rfl⟩ := hy
    exact ⟨Same.refl _, fun Y _ => .int _⟩
theorem new_tup {Y : List Addr} {T : Addr} {xs : List V} {ds : List PyData} (hT : H T = none) (hY : ∀ a ∈ Y, H a ≠ none) (h : DpAll K (hid Y H) xs ds) : Dp K (hid Y (upd H T (.tup xs))) (.ref T) (.tuple ds) :=
  .tup (by rw [hid_out fun z => hY T z hT]; exact upd_same) (DpAll.mono (hid_mono (same_new hT)) h)
theorem ei_enum (h : EvA K tr ρ M [.dat (.list ds)] M1) : EvI K (iEnum K tr) ρ M ds.length (fun i => .tuple [.int (i : Nat), ds.getD i .none]) M1 := fun F L σ H o R q => h F L σ H o _ fun vs H1 o1 e1 a1 x1 => by
  obtain ⟨v, rfl, hv⟩ := one_of x1
  obtain ⟨a, xs, rfl, h1, h2⟩ := list_of hv
  rw [← e1] at h1 h2
  have na : a ∉ L ++ ad M1 := by
    rcases h1 with h1 | ⟨_, h1⟩
    · exact (hid_some h1).1
    · exact (hid_some h1).1
  have there : ∀ H2, Same (hid (ad M1) H1) H2 → SqL K H2 a xs := fun H2 s2 => .inl (rd_same (Rd.mono (hid_le _ _) h1) fun x e => s2 _ _ (hid_of (fun z => na (List.mem_append_right _ z)) e))
  refine ⟨a, xs, rfl, there H1 (hid_le _ _), q _ H1 o1 e1 a1 fun i H2 s2 => ⟨fun hi => ?_, fun hi => ⟨xs, there H2 s2, by rw [h2.length]; exact hi⟩⟩⟩
  have hx : i < xs.length := by rw [h2.length]; exact hi
  refine ⟨⟨xs, xs[i], there H2 s2, List.getElem?_eq_getElem hx⟩, fun x H3 hy => ?_⟩
  obtain ⟨T, y, rfl, nT, rfl, fx⟩ := hy
  refine ⟨same_new nT, fun Y hY => ?_⟩
  obtain ⟨d, hd, hdp⟩ := h2.getV (fx xs (there _ s2))
  dsimp only
  rw [List.getD_eq_getElem?_getD, hd]
  exact new_tup nT (fun a ha => (hY a ha).2) (.cons (.int _) (.cons (Dp.mono (vis_Y s2 fun a ha => (hY a ha).1) hdp) .nil))
theorem ei_zip (h : EvA K tr ρ M [.dat (.list ds), .dat (.list es)] M1) : EvI K (iZip K tr) ρ M (min ds.length es.length) (fun i => .tuple [ds.getD i .none, es.getD i .none]) M1 := fun F L σ H o R q => h F L σ H o _ fun vs H1 o1 e1 a1 x1 => by
  obtain ⟨v, w, rfl, hv, hw⟩ := two_of x1
  obtain ⟨a, xs, rfl, h1, h2⟩ := list_of hv
  obtain ⟨b, ys, rfl, h3, h4⟩ := list_of hw
  rw [← e1] at h1 h2 h3 h4
  have nn : ∀ {a : Addr} {xs : List V}, Rd (hid (L ++ ad M1) H1) a (.lst xs) → a ∉ L ++ ad M1 := fun h1 => by
    rcases h1 with h1 | ⟨_, h1⟩
    · exact (hid_some h1).1
    · exact (hid_some h1).1
  have there : ∀ {a : Addr} {xs : List V}, Rd (hid (L ++ ad M1) H1) a (.lst xs) → ∀ H2, Same (hid (ad M1) H1) H2 → SqL K H2 a xs := fun h1 H2 s2 => .inl (rd_same (Rd.mono (hid_le _ _) h1) fun x e => s2 _ _ (hid_of (fun z => nn h1 (List.mem_append_right _ z)) e))
  refine ⟨a, b, xs, ys, rfl, there h1 H1 (hid_le _ _), there h3 H1 (hid_le _ _), q _ H1 o1 e1 a1 fun i H2 s2 => ⟨fun hi => ?_, fun hi => ⟨xs, ys, there h1 H2 s2, there h3 H2 s2, by rw [h2.length, h4.length]; omega⟩⟩⟩
  have hx : i < xs.length := by rw [h2.length]; omega
  have hy : i < ys.length := by rw [h4.length]; omega
  refine ⟨⟨xs, ys, xs[i], ys[i], there h1 H2 s2, there h3 H2 s2, List.getElem?_eq_getElem hx, List.getElem?_eq_getElem hy⟩, fun x H3 hyy => ?_⟩
  obtain ⟨T, y, z, rfl, nT, rfl, fx, fy⟩ := hyy
  refine ⟨same_new nT, fun Y hY => ?_⟩
  obtain ⟨d, hd, hdp⟩ := h2.getV (fx xs (there h1 _ s2))
  obtain ⟨e, he, hep⟩ := h4.getV (fy ys (there h3 _ s2))
  dsimp only
  rw [List.getD_eq_getElem?_getD, hd, List.getD_eq_getElem?_getD, he]
  exact new_tup nT (fun a ha => (hY a ha).2) (.cons (Dp.mono (vis_Y s2 fun a ha => (hY a ha).1) hdp) (.cons (Dp.mono (vis_Y s2 fun a ha => (hY a ha).1) hep) .nil))
/-! ### where the items go -/
/-- the target's slots js; up: what is told of the slots behind it -/
def EvG (K : PySem.W.Frag) (g : TG) (d : PyData) (js : List Nat) (up : List Sl → List Sl) : Prop := ∀ F L σ H ρ M v, Ok K F L σ H ρ M → Dp K (hid (L ++ ad M) H) v d → ∀ Q : L2.St → Hp → Prop, (∀ σ', Ok K F L σ' H (up ρ) M → (∀ k, k ∉ js → σ'[k]? = σ[k]?) → σ'.length = σ.length → Q σ' H) → g v σ H Q
theorem eg_name {i : Nat} : EvG K (gName i) d [i] (fun ρ => ρ.set i (.dat d)) := fun F L σ H ρ M v o h Q q => q _ (o.set h) (fun k hk => by
  rw [List.getElem?_set_ne]
  intro e; exact hk (by simp [e])) (List.length_set ..)
theorem eg_two {i j : Nat} : EvG K (gTup K 2 (gCons (gName i) (gCons (gName j) gNil))) (.tuple [d1, d2]) [i, j] (fun ρ => (ρ.set i (.dat d1)).set j (.dat d2)) := fun F L σ H ρ M v o h Q q => by
  refine g_tup h rfl (fun vs hv => ?_) (hid_le _ _)
  cases hv with
  | cons h1 hv =>
    cases hv with
    | cons h2 hv =>
      cases hv
      refine g_cons (g_cons (g_nil (q _ (Ok.set (s := .dat d2) (Ok.set (s := .dat d1) o h1) h2) (fun k hk => ?_) (by rw [List.length_set, List.length_set]))))
      have n1 : i ≠ k := fun e => hk (by simp [e])
      have n2 : j ≠ k := fun e => hk (by simp [e])
      rw [List.getElem?_set_ne n2, List.getElem?_set_ne n1]
/-! ### for -/
theorem Walk.turn {J : It} (w : Walk K F' L J n item) (o : Ok K F' L σ H ρ M) {i : Nat} (hi : i < n) : J.go i H ∧ ∀ x H', J.yld i H x H' → Ok K F' L σ H' ρ M ∧ Dp K (hid (L ++ ad M) H') x (item i) ∧ Same H H' := by
  obtain ⟨h1, h2⟩ := (w i H o.fr).1 hi
  refine ⟨h1, fun x H' hy => ?_⟩
  obtain ⟨h3, h4⟩ := h2 x H' hy
  refine ⟨o.mono h3, h4 _ fun a ha => ⟨?_, o.there ha⟩, h3⟩
  rcases List.mem_append.mp ha with z | z
  · exact .inl z
  · exact .inr (o.fn a z)
theorem s_for {js : List Nat} {up : Nat → List Sl → List Sl} (J : Nat → List Sl → Ms → Prop) (h : EvI K wi ρ M n item M1) (hg : ∀ i, i < n → EvG K g (item i) js (up i)) (h0 : J 0 ρ M1)
    (hs : ∀ F', Same F F' → ∀ i, i < n → ∀ ρ M, J i ρ M → ∀ σ H, Ok K F' L σ H (up i ρ) M → tu { D with nx := fun σ H => ∃ ρ M, J (i + 1) ρ M ∧ Ok K F' L σ H ρ M, ct := fun σ H => ∃ ρ M, J (i + 1) ρ M ∧ Ok K F' L σ H ρ M, bk := D.nx } σ H)
    (hd : ∀ ρ M, J n ρ M → ∀ σ H, Ok K F L σ H ρ M → D.nx σ H) (o : Ok K F L σ H ρ M) : tFor wi g tu D σ H := h F L σ H o _ fun I H1 o1 e1 a1 w => by
  obtain ⟨o2, sF⟩ := o1.fr_self
  refine ⟨fun i m σ H => m = n - i ∧ i ≤ n ∧ ∃ ρ M, J i ρ M ∧ Ok K (hid (ad M1) H1) L σ H ρ M, ⟨n, by simp, Nat.zero_le _, ρ, M1, h0, o2⟩, ?_⟩
  rintro i m σ2 H2 ⟨rfl, hi, ρ2, M2, j2, o2⟩
  by_cases hlt : i < n
  · obtain ⟨go, hy⟩ := w.turn o2 hlt
    refine .inr ⟨go, _, fun σ' H' p' => ⟨n - (i + 1), by omega, rfl, hlt, p'⟩, fun x H' y => ?_⟩
    obtain ⟨o3, hx, _⟩ := hy x H' y
    exact hg i hlt _ L σ2 H' ρ2 M2 x o3 hx _ fun σ3 o4 _ _ => hs _ sF i hlt ρ2 M2 j2 σ3 H' o4
  · have e : i = n := by omega
    subst e
    exact .inl ⟨(w i H2 o2.fr).2 (Nat.le_refl _), hd ρ2 M2 j2 σ2 H2 (o2.unfr sF)⟩
/-- while, by a word that falls -/
theorem s_while (J : Nat → List Sl → Ms → Prop) (m0 : Nat) (h0 : J m0 ρ M)
    (hs : ∀ m ρ M, J m ρ M → ∃ b M1, EvT K tt ρ M b M1 ∧ (b = true → ∀ σ H, Ok K F L σ H ρ M1 → tu { D with nx := fun σ H => ∃ m' ρ M, m' < m ∧ J m' ρ M ∧ Ok K F L σ H ρ M, ct := fun σ H => ∃ m' ρ M, m' < m ∧ J m' ρ M ∧ Ok K F L σ H ρ M, bk := D.nx } σ H) ∧ (b = false → ∀ σ H, Ok K F L σ H ρ M1 → D.nx σ H))
    (o : Ok K F L σ H ρ M) : tWhile tt tu D σ H := by
  refine ⟨fun m σ H => ∃ ρ M, J m ρ M ∧ Ok K F L σ H ρ M, ⟨m0, ρ, M, h0, o⟩, ?_⟩
  rintro m σ1 H1 ⟨ρ1, M1, j1, o1⟩
  obtain ⟨b, M2, hb, h1, h2⟩ := hs m ρ1 M1 j1
  refine hb F L σ1 H1 o1 _ fun H2 o2 e2 a2 => ?_
  cases b with
  | true => exact ⟨_, fun σ' H' ⟨m', ρ, M, hm, j, o⟩ => ⟨m', hm, ρ, M, j, o⟩, h1 rfl σ1 H2 o2⟩
  | false => exact h2 rfl σ1 H2 o2
/-! ### comprehensions -/
def wp : List Sl → List Nat → List Sl
  | ρ, [] => ρ
  | ρ, v :: vs => (wp ρ vs).set v .un
theorem paired_setn {G : Hp} {σ : L2.St} {ρ : List Sl} (h : Paired (SlO K G) σ ρ) : ∀ vs : List Nat, Paired (SlO K G) (wipe σ vs) (wp ρ vs)
  | [] => h
  | v :: vs => by
    unfold wipe wp
    exact paired_set (.inl rfl) v (paired_setn h vs)
theorem wipe_get {σ : L2.St} : ∀ (vs : List Nat) (k : Nat), (wipe σ vs)[k]? = if k ∈ vs then (if k < σ.length then some none else none) else σ[k]?
  | [], k => by simp [wipe]
  | v :: vs, k => by
    unfold wipe
    rw [List.getElem?_set, wipe_length]
    by_cases e : v = k
    · subst e; simp
    · rw [if_neg e, wipe_get vs k]
      by_cases hk : k ∈ vs
      · rw [if_pos hk, if_pos (List.mem_cons_of_mem _ hk)]
      · rw [if_neg hk, if_neg (by rw [List.mem_cons]; rintro (z | z); exact e z.symm; exact hk z)]
theorem wipe_eq {vs js : List Nat} (hj : ∀ j ∈ js, j ∈ vs) (h : ∀ k, k ∉ js → σ'[k]? = σ[k]?) (hl : σ'.length = σ.length) : wipe σ' vs = wipe σ vs := by
  apply List.ext_getElem?; intro k
  rw [wipe_get, wipe_get, hl]
  split
  · rfl
  · exact h k fun z => by rename_i hk; exact hk (hj k z)
theorem wipe_idem (vs : List Nat) : wipe (wipe σ vs) vs = wipe σ vs := by
  apply List.ext_getElem?; intro k
  rw [wipe_get, wipe_length, wipe_get]
  split <;> rfl
def given (n : Nat) (f : Nat → Bool) (v : Nat → PyData) : List PyData := ((List.range n).filter f).map v
theorem given_yes {f : Nat → Bool} {v : Nat → PyData} (h : f n = true) : given (n + 1) f v = given n f v ++ [v n] := by
  unfold given
  rw [List.range_succ, List.filter_append, List.map_append, List.filter_cons, if_pos h] <;> rfl
theorem given_no {f : Nat → Bool} {v : Nat → PyData} (h : f n = false) : given (n + 1) f v = given n f v := by
  unfold given
  rw [List.range_succ, List.filter_append, List.map_append, List.filter_cons, if_neg (by rw [h]; decide)]
  show _ ++ [] = _
  rw [List.append_nil]
theorem given_len (n : Nat) (f : Nat → Bool) (v : Nat → PyData) : (given n f v).length ≤ n := by
  unfold given
  rw [List.length_map]
  have h := List.length_filter_le f (List.range n)
  rw [List.length_range] at h
  exact h
theorem Ok.back {A : Addr} (o1 : Ok K F L σ H1 ρ M1) (o : Ok K (hid (ad M1) H1) (A :: L) σ' H' ρ' Mn) (hA : H1 A = none) : Ok K F (A :: L) σ H' ρ Mn := by
  obtain ⟨_, sF⟩ := o1.fr_self
  refine { o with sl := Paired.mapP o1.sl fun _ _ q => q.mono (fun a y e => ?_), fr := sF.trans o.fr, fn := fun p hp => sF.free (o.fn p hp) }
  obtain ⟨n, e2⟩ := hid_some e
  have e3 : hid (ad M1) H1 a = some y := hid_of (fun z => n (List.mem_append_right _ z)) e2
  refine hid_of (fun z => ?_) (o.fr _ _ e3)
  rcases List.mem_append.mp z with z | z
  · rcases List.mem_cons.mp z with z | z
    · rw [z, hA] at e2; cases e2
    · exact n (List.mem_append_left _ z)
  · rw [o.fn a z] at e3; cases e3
theorem Ok.reslot (o : Ok K F L σ H ρ M) (o' : Ok K F L σ' H' ρ' M') (e : ad M' = ad M) (s : Same (hid (ad M) H) H') : Ok K F L σ H' ρ M' :=
  { o' with sl := by rw [e]; exact Paired.mapP o.sl fun _ _ q => q.mono (same_visL s) }
theorem evn_lc_at {js vs : List Nat} {up : Nat → List Sl → List Sl} (Mf : Nat → Ms) (b : Nat → Bool) (v : Nat → PyData) (o : Ok K F L σ H ρ M) (hi : ∀ R : It → Hp → Prop, (∀ J H1, Ok K F L σ H1 ρ (Mf 0) → ad (Mf 0) = ad M → Same (hid (ad M) H) H1 → Walk K (hid (ad (Mf 0)) H1) L J n item → R J H1) → wi σ H R) (hg : ∀ i, i < n → EvG K g (item i) js (up i)) (hjs : ∀ j ∈ js, j ∈ vs)
    (ht : ∀ i, i < n → EvT K tt (up i (wp ρ vs)) (Mf i) (b i) (Mf i)) (he : ∀ i, i < n → b i = true → Ev K te (up i (wp ρ vs)) (Mf i) (.dat (v i)) (Mf (i + 1))) (hn : ∀ i, i < n → b i = false → Mf (i + 1) = Mf i) (hl : n ≤ 500000) (Q : VK)
    (q : ∀ p vs H1, H p = none → Ok K F (p :: L) σ H1 ρ (Mf n) → ad (Mf n) = ad M → Same (hid (ad M) H) H1 → H1 p = some (.lst vs) → DpAll K (hid (p :: (L ++ ad M)) H1) vs (given n b v) → Q (.ref p) H1) : tLc wi g tt te vs σ H Q := hi _ fun I H1 o1 e1 a1 w => fun A hA => by
  obtain ⟨o2, sF⟩ := o1.fr_self
  have hA0 : H A = none := back_none o o1 e1 a1 hA
  have hFA : hid (ad (Mf 0)) H1 A = none := (hid_le _ _).free hA
  refine ⟨fun i m H' => m = n - i ∧ i ≤ n ∧ Ok K (hid (ad (Mf 0)) H1) (A :: L) (wipe σ vs) H' (wp ρ vs) (Mf i) ∧ ad (Mf i) = ad M ∧ ∃ us, H' A = some (.lst us) ∧ DpAll K (hid (A :: (L ++ ad M)) H') us (given i b v),
    ⟨n, by simp, Nat.zero_le _, ?_, e1, [], upd_same, .nil⟩, ?_⟩
  · have o3 := o2.lay (x := .lst []) hA
    exact { o3 with sl := paired_setn o3.sl vs }
  rintro i m H2 ⟨rfl, hin, o2, ei, us, hu, hus⟩
  by_cases hlt : i < n
  · have w' : Walk K (hid (ad (Mf 0)) H1) (A :: L) I n item := fun k G sG => ⟨fun hk => by
      obtain ⟨h1, h2⟩ := (w k G sG).1 hk
      refine ⟨h1, fun x G' hy => ?_⟩
      obtain ⟨h3, h4⟩ := h2 x G' hy
      refine ⟨h3, fun Y hY => h4 Y fun a ha => ⟨?_, (hY a ha).2⟩⟩
      rcases (hY a ha).1 with z | z
      · rcases List.mem_cons.mp z with z | z
        · rw [z]; exact .inr hFA
        · exact .inl z
      · exact .inr z, (w k G sG).2⟩
    obtain ⟨go, hy⟩ := w'.turn o2 hlt
    refine .inr ⟨go, fun H' => i + 1 ≤ n ∧ Ok K (hid (ad (Mf 0)) H1) (A :: L) (wipe σ vs) H' (wp ρ vs) (Mf (i + 1)) ∧ ad (Mf (i + 1)) = ad M ∧ ∃ us, H' A = some (.lst us) ∧ DpAll K (hid (A :: (L ++ ad M)) H') us (given (i + 1) b v), fun H' p' => ⟨n - (i + 1), by omega, rfl, p'⟩, fun x H3 y => ?_⟩
    have nA : A ∉ ad (Mf i) := by rw [ei]; exact mem_ad_of (Q := fun _ => True) o hA0
    obtain ⟨o3, hx, s3⟩ := hy x H3 y
    have h3A : H3 A = some (.lst us) := s3 _ _ hu
    refine hg i hlt _ (A :: L) _ H3 _ (Mf i) x o3 hx _ fun σ4 o4 ag hlen => ⟨?_, ?_⟩
    · rw [wipe_eq hjs ag hlen, wipe_idem]
    refine ht i hlt _ (A :: L) σ4 H3 o4 _ fun H4 o5 _ a5 => ?_
    have h4A : H4 A = some (.lst us) := a5 _ _ (hid_of nA h3A)
    have s24 : Same (hid (ad (Mf i)) H2) H4 := fun a z e => a5 _ _ (hid_mono s3 _ _ e)
    have vus : ∀ {G : Hp}, Same (hid (ad (Mf i)) H2) G → DpAll K (hid (A :: (L ++ ad M)) G) us (given i b v) := fun sG => DpAll.mono (same_vis sG fun a ha => by
      rw [ei] at ha; exact List.mem_cons_of_mem _ (List.mem_append_right _ ha)) hus
    cases hb : b i with
    | false =>
      rw [if_neg Bool.false_ne_true]
      have em := hn i hlt hb
      refine ⟨hlt, ?_, by rw [em]; exact ei, us, h4A, by rw [given_no hb]; exact vus s24⟩
      rw [em]
      exact o2.reslot o5 rfl s24
    | true =>
      rw [if_pos rfl]
      refine he i hlt hb _ (A :: L) σ4 H4 o5 _ fun z H5 o6 e6 a6 hz => ?_
      have h5A : H5 A = some (.lst us) := a6 _ _ (hid_of nA h4A)
      have s25 : Same (hid (ad (Mf i)) H2) H5 := chain2 rfl s24 a6
      have e7 : ad (Mf (i + 1)) = ad M := e6.trans ei
      have gl := given_len i b v
      refine ⟨us, h5A, ?_, hlt, ?_, e7, us ++ [z], upd_same, ?_⟩
      · rw [hus.length]; exact line_lt (by omega)
      · exact (o2.reslot o6 e6 s25).updL List.mem_cons_self hFA (by rw [e6]; exact nA)
      · rw [hid_upd List.mem_cons_self, given_yes hb]
        refine (vus s25).append (.cons ?_ .nil)
        rw [← ei]; exact hz
  · have e : i = n := by omega
    subst e
    refine .inl ⟨(w i H2 o2.fr).2 (Nat.le_refl _), ?_⟩
    have o3 : Ok K F (A :: L) σ H2 ρ (Mf i) := o1.back o2 hA
    refine q A us H2 hA0 o3 ei (fun a y e => ?_) hu hus
    exact o2.fr _ _ (hid_of (by rw [e1]; exact (hid_some e).1) (a1 _ _ e))
theorem evn_lc {js vs : List Nat} {up : Nat → List Sl → List Sl} (Mf : Nat → Ms) (b : Nat → Bool) (v : Nat → PyData) (hi : EvI K wi ρ M n item (Mf 0)) (hg : ∀ i, i < n → EvG K g (item i) js (up i)) (hjs : ∀ j ∈ js, j ∈ vs)
    (ht : ∀ i, i < n → EvT K tt (up i (wp ρ vs)) (Mf i) (b i) (Mf i)) (he : ∀ i, i < n → b i = true → Ev K te (up i (wp ρ vs)) (Mf i) (.dat (v i)) (Mf (i + 1))) (hn : ∀ i, i < n → b i = false → Mf (i + 1) = Mf i) (hl : n ≤ 500000) :
    EvN K (tLc wi g tt te vs) ρ M (given n b v) (Mf n) := fun F L σ H o Q q => evn_lc_at Mf b v o (hi F L σ H o) hg hjs ht he hn hl Q q
end
end Wm

namespace Wm
open PySem L2 PySem.Spec PyProof.Rows
section
variable {K : PySem.W.Frag} {F F' H H' H0 H1 : Hp} {L : List Addr} {σ σ' : L2.St} {ρ ρ' : List Sl} {M M' M1 M2 M3 Mn : Ms}
variable {te ta tb tc ti : TE} {tt : TT} {tr : TA} {s s1 s2 : Sl} {ss : List Sl} {d d1 d2 d3 : PyData} {ds es : List PyData} {D : Ends} {tu tw : TS} {g : TG} {wi : TI} {n : Nat} {item : Nat → PyData}
/-! ### arguments that are data -/
def EvD (K : PySem.W.Frag) (tr : TA) (ρ : List Sl) (M : Ms) (ds : List PyData) (M' : Ms) : Prop := EvA K tr ρ M (ds.map Sl.dat) M'
theorem ed_nil : EvD K tNil ρ M [] M := EvA.nil
theorem ed_cons (h : Ev K ta ρ M (.dat d) M1) (hr : EvD K tr ρ M1 ds M2) : EvD K (tCons ta tr) ρ M (d :: ds) M2 := EvA.cons h hr
theorem ev_callD {R : List PyData → PyData → Prop} {E : XK} {r : PyData} (ha : EvD K tr ρ M ds M1) (hR : R ds r) : Ev K (tCall (spP K R) [] E tr) ρ M (.dat r) M1 := ev_call ha hR
theorem evn_callD {R : List PyData → List PyData → Prop} {E : XK} {rs : List PyData} (ha : EvD K tr ρ M ds M1) (hR : R ds rs) : EvN K (tCall (spN K R) [] E tr) ρ M rs M1 := evn_call ha hR
theorem evn_lstD (h : EvD K tr ρ M ds M1) (hl : ds.length ≤ 1000000) : EvN K (tLst tr) ρ M ds M1 := evn_lst h hl
theorem ev_tupD (h : EvD K tr ρ M ds M1) (hl : ds.length ≤ 1000000) : Ev K (tTup tr) ρ M (.dat (.tuple ds)) M1 := ev_tup h hl
theorem ea_M {p : Addr} (h : Ev K ta ρ M (.loc (.ref p)) M1) (hr : EvD K tr ρ M1 ds M2) : EvA K (tCons ta tr) ρ M (.loc (.ref p) :: ds.map Sl.dat) M2 := EvA.cons h hr
theorem ev_callMD {R : MO → List PyData → PyData → MO → Prop} {E : XK} {r : PyData} {p : Addr} {x x' : MO} (j : Nat) (h : Ev K ta ρ M (.loc (.ref p)) M1) (hr : EvD K tr ρ M1 ds M2) (hj : M2[j]? = some (p, x)) (hR : R x ds r x') : Ev K (tCall (spM K R) [] E (tCons ta tr)) ρ M (.dat r) (M2.set j (p, x')) := ev_callM (ea_M h hr) hj hR
theorem evn_callMD {R : MO → List PyData → List PyData → MO → Prop} {E : XK} {rs : List PyData} {p : Addr} {x x' : MO} (j : Nat) (h : Ev K ta ρ M (.loc (.ref p)) M1) (hr : EvD K tr ρ M1 ds M2) (hj : M2[j]? = some (p, x)) (hR : R x ds rs x') : EvN K (tCall (spMN K R) [] E (tCons ta tr)) ρ M rs (M2.set j (p, x')) := evn_callM (ea_M h hr) hj hR
/-! ### typed places of lists -/
theorem getD_int {ns : List Int} {i : Int} (h0 : 0 ≤ i) (h1 : i < ns.length) : atI (ns.map PyData.int) i = some (.int (ns.getD i.toNat 0)) := by
  have hi : i.toNat < ns.length := by omega
  rw [atI_pos h0 (by rw [List.length_map]; exact h1), List.getElem?_map, List.getD_eq_getElem?_getD, List.getElem?_eq_getElem hi]
  rfl
theorem getD_str {ns : List Str} {i : Int} (h0 : 0 ≤ i) (h1 : i < ns.length) : atI (ns.map PyData.str) i = some (.str (ns.getD i.toNat Str.empty)) := by
  have hi : i.toNat < ns.length := by omega
  rw [atI_pos h0 (by rw [List.length_map]; exact h1), List.getElem?_map, List.getD_eq_getElem?_getD, List.getElem?_eq_getElem hi]
  rfl
theorem ev_ixI {ns : List Int} {i : Int} (ha : Ev K ta ρ M (.dat (.list (ns.map PyData.int))) M1) (hb : Ev K ti ρ M1 (.dat (.int i)) M2) (h0 : 0 ≤ i) (h1 : i < ns.length) : Ev K (tOp (rIxL K) ta ti) ρ M (.dat (.int (ns.getD i.toNat 0))) M2 := ev_ixL ha hb (getD_int h0 h1)
theorem ev_ixS {ns : List Str} {i : Int} (ha : Ev K ta ρ M (.dat (.list (ns.map PyData.str))) M1) (hb : Ev K ti ρ M1 (.dat (.int i)) M2) (h0 : 0 ≤ i) (h1 : i < ns.length) : Ev K (tOp (rIxL K) ta ti) ρ M (.dat (.str (ns.getD i.toNat Str.empty))) M2 := ev_ixL ha hb (getD_str h0 h1)
/-! ### the local list that changed is handed on as data -/
/-- slots that held the object at p hold the data -/
inductive Fz (p : Addr) (d : PyData) : List Sl → List Sl → Prop
  | nil : Fz p d [] []
  | same {s : Sl} {a b : List Sl} : Fz p d a b → Fz p d (s :: a) (s :: b)
  | here {a b : List Sl} : Fz p d a b → Fz p d (.loc (.ref p) :: a) (.dat d :: b)
theorem fz_ok {G : Hp} {p : Addr} {d : PyData} (h : Dp K G (.ref p) d) : ∀ {σ : L2.St} {ρ ρ' : List Sl}, Fz p d ρ ρ' → Paired (SlO K G) σ ρ → Paired (SlO K G) σ ρ'
  | _, _, _, .nil, q => q
  | _, _, _, .same w, .cons r t => .cons r (fz_ok h w t)
  | _, _, _, .here w, .cons r t => .cons (by
      rcases r with r | ⟨v, r1, r2⟩
      · cases r
      · have e : v = .ref p := r2
        subst e
        exact .inr ⟨_, r1, h⟩) (fz_ok h w t)
theorem ad_erase {M : Ms} {p : Addr} {x : MO} {j : Nat} (hj : M[j]? = some (p, x)) (nd : (ad M).Nodup) : ∀ a, a ∈ ad (M.eraseIdx j) ↔ a ∈ ad M ∧ a ≠ p := fun a => by
  have hl : j < M.length := (List.getElem?_eq_some_iff.mp hj).1
  constructor
  · intro h
    obtain ⟨y, hy, rfl⟩ := List.mem_map.mp h
    have hm : y ∈ M := List.mem_of_mem_eraseIdx hy
    refine ⟨List.mem_map.mpr ⟨y, hm, rfl⟩, fun e => ?_⟩
    obtain ⟨i, hi⟩ := List.mem_iff_getElem?.mp hy
    rw [List.getElem?_eraseIdx] at hi
    split at hi
    · have h1 : (ad M)[i]? = some p := by simp only [ad, List.getElem?_map, hi, Option.map_some, e]
      have h2 : (ad M)[j]? = some p := by simp only [ad, List.getElem?_map, hj, Option.map_some]
      have := (List.getElem?_inj (List.getElem?_eq_some_iff.mp h2).1 nd).mp (h2.trans h1.symm)
      omega
    · have h1 : (ad M)[i + 1]? = some p := by simp only [ad, List.getElem?_map, hi, Option.map_some, e]
      have h2 : (ad M)[j]? = some p := by simp only [ad, List.getElem?_map, hj, Option.map_some]
      have := (List.getElem?_inj (List.getElem?_eq_some_iff.mp h2).1 nd).mp (h2.trans h1.symm)
      omega
  · rintro ⟨h, hn⟩
    obtain ⟨y, hy, rfl⟩ := List.mem_map.mp h
    obtain ⟨i, hi⟩ := List.mem_iff_getElem?.mp hy
    refine List.mem_map.mpr ⟨y, List.mem_iff_getElem?.mpr ?_, rfl⟩
    by_cases e : i < j
    · exact ⟨i, by rw [List.getElem?_eraseIdx, if_pos e]; exact hi⟩
    · have e2 : i ≠ j := fun z => by rw [z, hj] at hi; cases hi; exact hn rfl
      exact ⟨i - 1, by rw [List.getElem?_eraseIdx, if_neg (by omega), show i - 1 + 1 = i by omega]; exact hi⟩
theorem Ok.freeze {p : Addr} (j : Nat) {ρ' : List Sl} (o : Ok K F L σ H ρ M) (hj : M[j]? = some (p, .lst ds)) (hp : p ∉ L) (w : Fz p (.list ds) ρ ρ') : Ok K F L σ H ρ' (M.eraseIdx j) := by
  have ea := ad_erase hj o.nd
  have vis : Same (hid (L ++ ad M) H) (hid (L ++ ad (M.eraseIdx j)) H) := hid_sub fun a ha => by
    rcases List.mem_append.mp ha with z | z
    · exact List.mem_append_left _ z
    · exact List.mem_append_right _ ((ea a).mp z).1
  refine ⟨fz_ok ?_ w (Paired.mapP o.sl fun _ _ q => q.mono vis), fun x hx => (o.ob x (List.mem_of_mem_eraseIdx hx)).mono vis rfl, ?_, o.fr, fun q hq => o.fn q ((ea q).mp hq).1, o.lv⟩
  · obtain ⟨vs, h1, h2⟩ := o.ob _ (List.mem_of_getElem? hj)
    refine .lst (.inl (hid_of (fun z => ?_) h1)) (DpAll.mono vis h2)
    rcases List.mem_append.mp z with z | z
    · exact hp z
    · exact ((ea p).mp z).2 rfl
  · exact List.Nodup.sublist ((List.eraseIdx_sublist M j).map _) o.nd
/-! ### a def's end -/
theorem s_retP {r : PyData} (h : Ev K te ρ M (.dat r) M1) (k : ∀ v H1, Same F H1 → Dp K (hid L H1) v r → D.rt v H1) (o : Ok K F L σ H ρ M) : tRet te D σ H := s_ret h (fun v H1 o1 x1 => k v H1 o1.fr (Dp.mono (hid_sub fun _ z => List.mem_append_left _ z) x1)) o
theorem s_retNP (h : EvN K te ρ M ds M1) (k : ∀ v H1, Same F H1 → Dp K (hid L H1) v (.list ds) → D.rt v H1) (o : Ok K F L σ H ρ M) : tRet te D σ H := s_retP h.ev k o
theorem s_retNN (h : EvN K te ρ M ds M1) (k : ∀ p us H1, Same F H1 → F p = none → p ∉ L ++ ad M → (∀ x ∈ M1, MOk K (hid (p :: (L ++ ad M)) H1) H1 x.1 x.2) → H1 p = some (.lst us) → DpAll K (hid (p :: (L ++ ad M)) H1) us ds → D.rt (.ref p) H1) (o : Ok K F L σ H ρ M) : tRet te D σ H :=
  h F L σ H o _ fun p us H1 hp o1 e1 a1 h1 h2 => k p us H1 o1.fr (o.fr.free hp) (o.fresh hp) (fun x hx => by
    have := o1.ob x hx
    rw [e1] at this; exact this) h1 h2
/-- a local list that was built is handed back as data -/
theorem s_retM {p : Addr} (j : Nat) (h : Ev K te ρ M (.loc (.ref p)) M1) (hj : M1[j]? = some (p, .lst ds)) (hp : p ∉ L) (k : ∀ v H1, Same F H1 → Dp K (hid L H1) v (.list ds) → D.rt v H1) (o : Ok K F L σ H ρ M) : tRet te D σ H := s_ret h (fun v H1 o1 x1 => by
  have ev : v = .ref p := x1
  subst ev
  obtain ⟨vs, h1, h2⟩ := o1.ob _ (List.mem_of_getElem? hj)
  exact k _ H1 o1.fr (.lst (.inl (hid_of hp h1)) (DpAll.mono (hid_sub fun _ z => List.mem_append_left _ z) h2))) o
/-- .. as a new list -/
theorem s_retMN {p : Addr} (j : Nat) (h : Ev K te ρ M (.loc (.ref p)) M1) (hj : M1[j]? = some (p, .lst ds)) (k : ∀ us H1, Same F H1 → F p = none → (∀ x ∈ M1, MOk K (hid (L ++ ad M1) H1) H1 x.1 x.2) → (ad M1).Nodup → H1 p = some (.lst us) → DpAll K (hid (L ++ ad M1) H1) us ds → D.rt (.ref p) H1) (o : Ok K F L σ H ρ M) : tRet te D σ H := s_ret h (fun v H1 o1 x1 => by
  have ev : v = .ref p := x1
  subst ev
  obtain ⟨vs, h1, h2⟩ := o1.ob _ (List.mem_of_getElem? hj)
  exact k vs H1 o1.fr (o1.fn p (mem_ad hj)) o1.ob o1.nd h1 h2) o
end
/-! ### a def, told by what it gives -/
theorem paired_un {K : PySem.W.Frag} {G : Hp} : ∀ n : Nat, Paired (SlO K G) (List.replicate n none) (List.replicate n Sl.un)
  | 0 => .nil
  | n + 1 => .cons (.inl rfl) (paired_un n)
theorem paired_app {α β : Type} {G : α → β → Prop} : ∀ {xs xs' : List α} {ys ys' : List β}, Paired G xs ys → Paired G xs' ys' → Paired G (xs ++ xs') (ys ++ ys')
  | _, _, _, _, .nil, h => h
  | _, _, _, _, .cons a t, h => .cons a (paired_app t h)
theorem paired_start {K : PySem.W.Frag} {G : Hp} : ∀ {vs : List V} {ss : List Sl}, Paired (SlOk K G) vs ss → Paired (SlO K G) (vs.map some) ss
  | _, _, .nil => .nil
  | _, _, .cons a t => .cons (.inr ⟨_, rfl, a⟩) (paired_start t)
def st0 (N : List Str) (ss : List Sl) : List Sl := ss ++ List.replicate (N.length - ss.length) .un
theorem ok_start {K : PySem.W.Frag} {H F : Hp} {L : List Addr} {N : List Str} {vs : List V} {ss : List Sl} {M : Ms} (h : Paired (SlOk K (hid (L ++ ad M) H)) vs ss) (lv : ∀ p ∈ L, H p ≠ none) (ob : ∀ x ∈ M, MOk K (hid (L ++ ad M) H) H x.1 x.2) (nd : (ad M).Nodup) (fr : Same F H) (fn : ∀ p ∈ ad M, F p = none) : Ok K F L (L2.start N vs) H (st0 N ss) M := by
  refine ⟨?_, ob, nd, fr, fn, lv⟩
  unfold L2.start st0
  rw [paired_len h]
  exact paired_app (paired_start h) (paired_un _)
section
variable {P : Program} {w : World} {K : PySem.W.Frag} {mg : Str → Option Value} {base : Heap} {x qual : Str} {st : Stmt} {f : Addr} {fd : FuncData} {N ps : List Str} {k : Nat}
theorem okP {R : List PyData → PyData → Prop} (Fn : Fun K x qual st f fd) (S : FnScope N ps (defScope st)) (hl : ∀ ds r, R ds r → ds.length = ps.length)
    (hb : ∀ cdv A outer s H E, Room k (A.deeper (envOfC qual (defScope st) s.heap.objs.size f cdv)) → ∃ t, PSs (cxOf CX0 P w K mg base N qual (defScope st) f cdv A outer s H E).nox (defBody st) t ∧
      ∀ ds r, R ds r → ∀ (F : Hp) L σ H (D : Ends), (∀ v H', Same F H' → Dp K (hid L H') v r → D.rt v H') → (∀ σ H', Same F H' → r = .none → D.nx σ H') → Ok K F L σ H (st0 N (ds.map Sl.dat)) [] → t D σ H) :
    FnOk P w K mg base CX0 (k + 1) f fd ps (spP K R) := by
  refine Fn.ok S (fun vs H Q E h => ?_) (fun cdv A outer s H vs Q E hr h => ?_)
  · obtain ⟨L, ds, r, lv, hd, hR, _⟩ := h
    rw [hd.length]; exact hl ds r hR
  · obtain ⟨L, ds, r, lv, hd, hR, q⟩ := h
    obtain ⟨t, h1, h2⟩ := hb cdv A outer s H E hr
    refine ⟨t, h1, h2 ds r hR H L _ H _ (fun v H' s2 h => q v H' s2 h) (fun σ H' s2 e => ?_) (ok_start (of_dpAll (by simpa using hd)) lv (fun x hx => by cases hx) (by simp) (Same.refl H) (fun p hp => by simp at hp))⟩
    subst e
    exact q .non H' s2 .non
theorem okN {R : List PyData → List PyData → Prop} (Fn : Fun K x qual st f fd) (S : FnScope N ps (defScope st)) (hl : ∀ ds r, R ds r → ds.length = ps.length)
    (hb : ∀ cdv A outer s H E, Room k (A.deeper (envOfC qual (defScope st) s.heap.objs.size f cdv)) → ∃ t, PSs (cxOf CX0 P w K mg base N qual (defScope st) f cdv A outer s H E).nox (defBody st) t ∧
      ∀ ds rs, R ds rs → ∀ (F : Hp) L σ H (D : Ends), (∀ p us H', Same F H' → F p = none → H' p = some (.lst us) → DpAll K (hid (p :: L) H') us rs → D.rt (.ref p) H') → Ok K F L σ H (st0 N (ds.map Sl.dat)) [] → t D σ H) :
    FnOk P w K mg base CX0 (k + 1) f fd ps (spN K R) := by
  refine Fn.ok S (fun vs H Q E h => ?_) (fun cdv A outer s H vs Q E hr h => ?_)
  · obtain ⟨L, ds, r, lv, hd, hR, _⟩ := h
    rw [hd.length]; exact hl ds r hR
  · obtain ⟨L, ds, r, lv, hd, hR, q⟩ := h
    obtain ⟨t, h1, h2⟩ := hb cdv A outer s H E hr
    exact ⟨t, h1, h2 ds r hR H L _ H _ (fun p us H' s2 hf h h' => q p us H' s2 hf h h') (ok_start (of_dpAll (by simpa using hd)) lv (fun x hx => by cases hx) (by simp) (Same.refl H) (fun p hp => by simp at hp))⟩
theorem okM {R : MO → List PyData → PyData → MO → Prop} (Fn : Fun K x qual st f fd) (S : FnScope N ps (defScope st)) (hl : ∀ y ds r y', R y ds r y' → ds.length + 1 = ps.length)
    (hb : ∀ cdv A outer s H E, Room k (A.deeper (envOfC qual (defScope st) s.heap.objs.size f cdv)) → ∃ t, PSs (cxOf CX0 P w K mg base N qual (defScope st) f cdv A outer s H E).nox (defBody st) t ∧
      ∀ y ds r y', R y ds r y' → ∀ (F : Hp) L p σ H (D : Ends), (∀ v H', Same F H' → MOk K (hid L H') H' p y' → Dp K (hid L H') v r → D.rt v H') → p ∈ L → Ok K F L σ H (st0 N (.loc (.ref p) :: ds.map Sl.dat)) [(p, y)] → t D σ H) :
    FnOk P w K mg base CX0 (k + 1) f fd ps (spM K R) := by
  refine Fn.ok S (fun vs H Q E h => ?_) (fun cdv A outer s H vs Q E hr h => ?_)
  · obtain ⟨L, p, us, y, ds, r, y', rfl, lv, hp, hm, hd, hR, _⟩ := h
    rw [List.length_cons, hd.length]; exact hl _ _ _ _ hR
  · obtain ⟨L, p, us, y, ds, r, y', rfl, lv, hp, hm, hd, hR, q⟩ := h
    obtain ⟨t, h1, h2⟩ := hb cdv A outer s H E hr
    have sub : ∀ G : Hp, Same (hid L G) (hid (L ++ ad [(p, y)]) G) := fun G => hid_sub fun a ha => by
      rcases List.mem_append.mp ha with z | z
      · exact z
      · have e : a = p := by simpa [ad] using z
        rw [e]; exact hp
    refine ⟨t, h1, h2 y ds r y' hR (hid [p] H) L p _ H _ (fun v H' s2 h h' => q v H' s2 h h') hp (ok_start (.cons rfl (of_dpAll (hd.mono (sub H)))) lv (fun x hx => ?_) (by simp [ad]) (hid_le _ _) (fun a ha => ?_))⟩
    · have e : x = (p, y) := by simpa using hx
      subst e
      exact hm.mono (sub H) rfl
    · exact hid_in (by simpa [ad] using ha)
theorem okMN {R : MO → List PyData → List PyData → MO → Prop} (Fn : Fun K x qual st f fd) (S : FnScope N ps (defScope st)) (hl : ∀ y ds r y', R y ds r y' → ds.length + 1 = ps.length)
    (hb : ∀ cdv A outer s H E, Room k (A.deeper (envOfC qual (defScope st) s.heap.objs.size f cdv)) → ∃ t, PSs (cxOf CX0 P w K mg base N qual (defScope st) f cdv A outer s H E).nox (defBody st) t ∧
      ∀ y ds rs y', R y ds rs y' → ∀ (F : Hp) L p σ H (D : Ends), (∀ l us H', Same F H' → F l = none → l ≠ p → MOk K (hid (l :: L) H') H' p y' → H' l = some (.lst us) → DpAll K (hid (l :: L) H') us rs → D.rt (.ref l) H') → p ∈ L → Ok K F L σ H (st0 N (.loc (.ref p) :: ds.map Sl.dat)) [(p, y)] → t D σ H) :
    FnOk P w K mg base CX0 (k + 1) f fd ps (spMN K R) := by
  refine Fn.ok S (fun vs H Q E h => ?_) (fun cdv A outer s H vs Q E hr h => ?_)
  · obtain ⟨L, p, us, y, ds, r, y', rfl, lv, hp, hm, hd, hR, _⟩ := h
    rw [List.length_cons, hd.length]; exact hl _ _ _ _ hR
  · obtain ⟨L, p, us, y, ds, r, y', rfl, lv, hp, hm, hd, hR, q⟩ := h
    obtain ⟨t, h1, h2⟩ := hb cdv A outer s H E hr
    have sub : ∀ G : Hp, Same (hid L G) (hid (L ++ ad [(p, y)]) G) := fun G => hid_sub fun a ha => by
      rcases List.mem_append.mp ha with z | z
      · exact z
      · have e : a = p := by simpa [ad] using z
        rw [e]; exact hp
    refine ⟨t, h1, h2 y ds r y' hR (hid [p] H) L p _ H _ (fun l us H' s2 hf hn h h' h'' => q l us H' s2 (by rw [hid_out (by simpa using hn)] at hf; exact hf) h h' h'') hp (ok_start (.cons rfl (of_dpAll (hd.mono (sub H)))) lv (fun x hx => ?_) (by simp [ad]) (hid_le _ _) (fun a ha => ?_))⟩
    · have e : x = (p, y) := by simpa using hx
      subst e
      exact hm.mono (sub H) rfl
    · exact hid_in (by simpa [ad] using ha)
end
end Wm

namespace Wm
open PySem L2 PySem.Spec PyProof.Rows
section
variable {K : PySem.W.Frag} {F F' H H' H0 H1 : Hp} {L : List Addr} {σ σ' : L2.St} {ρ ρ' : List Sl} {M M' M1 M2 M3 Mn : Ms}
variable {te ta tb tc ti : TE} {tt : TT} {tr : TA} {s s1 s2 : Sl} {ss : List Sl} {d d1 d2 d3 : PyData} {ds es : List PyData} {D : Ends} {tu tw : TS} {g : TG} {wi : TI} {n : Nat} {item : Nat → PyData}
/-! ### a list that is being built, looked at -/
theorem loc_dp {p : Addr} (o : Ok K F L σ H ρ M) (hp : (p, MO.lst ds) ∈ M) (hc : PyData.canLayAll0 ds = true) : L2.Dp K H (.ref p) (.list ds) := by
  obtain ⟨vs, h1, h2⟩ := o.ob _ hp
  exact .lst (.inl (.inl h1)) (DpAll.lo (DpAll.mono (hid_le _ _) h2) hc)
theorem ev_neDl {p : Addr} (ha : Ev K ta ρ M (.loc (.ref p)) M1) (hb : Ev K tb ρ M1 (.dat d2) M2) (hp : (p, MO.lst ds) ∈ M2) (h1 : SeqAt.shaped (.list ds) = true) (h2 : SeqAt.shaped d2 = true) : Ev K (tOp (rNeD K) ta tb) ρ M (.dat (.bool (!PyData.eqv (.list ds) d2))) M2 :=
  ev_op ha hb fun F L σ H x y o hx hy Q q => by
    have ex : x = .ref p := hx
    subst ex
    exact ⟨.list ds, d2, loc_dp o hp (by simpa [PyData.canLay0] using SeqAt.canLay_of_shaped h1), Dp.lo (Dp.mono (hid_le _ _) hy) (SeqAt.canLay_of_shaped h2), h1, h2, q _ H (Same.refl H) (.bl _)⟩
theorem ev_eqDl {p : Addr} (ha : Ev K ta ρ M (.loc (.ref p)) M1) (hb : Ev K tb ρ M1 (.dat d2) M2) (hp : (p, MO.lst ds) ∈ M2) (h1 : SeqAt.shaped (.list ds) = true) (h2 : SeqAt.shaped d2 = true) : Ev K (tOp (rEqD K) ta tb) ρ M (.dat (.bool (PyData.eqv (.list ds) d2))) M2 :=
  ev_op ha hb fun F L σ H x y o hx hy Q q => by
    have ex : x = .ref p := hx
    subst ex
    exact ⟨.list ds, d2, loc_dp o hp (by simpa [PyData.canLay0] using SeqAt.canLay_of_shaped h1), Dp.lo (Dp.mono (hid_le _ _) hy) (SeqAt.canLay_of_shaped h2), h1, h2, q _ H (Same.refl H) (.bl _)⟩
theorem evn_slM {p : Addr} {tl th : TO} {lo hi : Option Int} (ha : Ev K ta ρ M (.loc (.ref p)) M1) (hl : EvO K tl ρ M1 lo M2) (hh : EvO K th ρ M2 hi M3) (hp : (p, MO.lst ds) ∈ M3) : EvN K (tSl (rSlL K) ta tl th) ρ M (cutD ds lo hi) M3 := fun F L σ H o Q q =>
  ha F L σ H o _ fun x H1 o1 e1 a1 x1 => hl F L σ H1 o1 _ fun H2 o2 e2 a2 => hh F L σ H2 o2 _ fun H3 o3 e3 a3 => by
    have ex : x = .ref p := x1
    subst ex
    obtain ⟨vs, h1, h2⟩ := o3.ob _ hp
    have a13 := chain2 (e2.trans e1) (chain2 e1 a1 a2) a3
    have e13 := e3.trans (e2.trans e1)
    refine ⟨p, vs, rfl, SqL.of h1, fun q' hp' => q q' _ _ (back_none o o3 e13 a13 hp') (o3.lay hp') e13 (a13.trans (same_new hp')) upd_same (DpAll.mono (same_lay hp') (cut_dp ?_))⟩
    rw [← e13]; exact h2
/-! ### and, or, if: both parts may be reckoned -/
theorem et_or2 {a b : Bool} (h1 : EvT K tt ρ M a M) {tu : TT} (h2 : EvT K tu ρ M b M) : EvT K (tOr tt tu) ρ M (a || b) M := et_or h1 fun _ => h2
theorem et_and2 {a b : Bool} (h1 : EvT K tt ρ M a M) {tu : TT} (h2 : EvT K tu ρ M b M) : EvT K (tAnd tt tu) ρ M (a && b) M := et_and h1 fun _ => h2
theorem et_orF {tu : TT} (h1 : EvT K tt ρ M false M) (h2 : EvT K tu ρ M false M) : EvT K (tOr tt tu) ρ M false M := et_or h1 fun _ => h2
theorem et_notF (h1 : EvT K tt ρ M true M1) : EvT K (tNot tt) ρ M false M1 := et_not h1
theorem et_notT (h1 : EvT K tt ρ M false M1) : EvT K (tNot tt) ρ M true M1 := et_not h1
theorem ev_andV2 {a b : Bool} (h1 : Ev K ta ρ M (.dat (.bool a)) M) (h2 : Ev K tb ρ M (.dat (.bool b)) M) : Ev K (tAndV ta tb) ρ M (.dat (.bool (a && b))) M := ev_andV h1 fun _ => h2
theorem ev_orV2 {a b : Bool} (h1 : Ev K ta ρ M (.dat (.bool a)) M) (h2 : Ev K tb ρ M (.dat (.bool b)) M) : Ev K (tOrV ta tb) ρ M (.dat (.bool (a || b))) M := ev_orV h1 fun _ => h2
theorem ev_ite2 {b : Bool} (h : EvT K tt ρ M b M) (h1 : Ev K ta ρ M (.dat d1) M) (h2 : Ev K tb ρ M (.dat d2) M) : Ev K (tIf tt ta tb) ρ M (.dat (if b = true then d1 else d2)) M := ev_ite h (fun _ => h1) fun _ => h2
/-- a comprehension without a test that draws nothing -/
theorem evn_lcP {te : TE} {wi : TI} {js vs : List Nat} {up : Nat → List Sl → List Sl} (v : Nat → PyData) (hi : EvI K wi ρ M n item M1) (hg : ∀ i, i < n → EvG K g (item i) js (up i)) (hjs : ∀ j ∈ js, j ∈ vs)
    (he : ∀ i, i < n → Ev K te (up i (wp ρ vs)) M1 (.dat (v i)) M1) (hl : n ≤ 500000) : EvN K (tLc wi g tYes te vs) ρ M ((List.range n).map v) M1 := by
  have h := evn_lc (fun _ => M1) (fun _ => true) v hi hg hjs (fun i _ F L σ H o Q q => q _ o rfl (hid_le _ _)) (fun i h _ => he i h) (fun _ _ e => by cases e) hl
  have e : given n (fun _ => true) v = (List.range n).map v := by
    unfold given
    rw [List.filter_eq_self.mpr (fun _ _ => rfl)]
  rw [e] at h
  exact h
/-- .. with a test -/
theorem evn_lcF {te : TE} {wi : TI} {js vs : List Nat} {up : Nat → List Sl → List Sl} (b : Nat → Bool) (v : Nat → PyData) (hi : EvI K wi ρ M n item M1) (hg : ∀ i, i < n → EvG K g (item i) js (up i)) (hjs : ∀ j ∈ js, j ∈ vs)
    (ht : ∀ i, i < n → EvT K tt (up i (wp ρ vs)) M1 (b i) M1) (he : ∀ i, i < n → Ev K te (up i (wp ρ vs)) M1 (.dat (v i)) M1) (hl : n ≤ 500000) : EvN K (tLc wi g tt te vs) ρ M (given n b v) M1 :=
  evn_lc (fun _ => M1) b v hi hg hjs ht (fun i h _ => he i h) (fun _ _ _ => rfl) hl
theorem range_map_getD {α β : Type} (xs : List α) (d : α) (f : α → β) : (List.range xs.length).map (fun i => f (xs.getD i d)) = xs.map f := by
  apply List.ext_getElem
  · simp
  · intro i h1 h2
    simp at h1
    simp [List.getD_eq_getElem?_getD, h1]
theorem getD_map_int (xs : List Int) (i : Nat) (h : i < xs.length) : (xs.map PyData.int).getD i .none = .int (xs.getD i 0) := by
  simp [List.getD_eq_getElem?_getD, h]
theorem getD_map_str (xs : List Str) (i : Nat) (h : i < xs.length) : (xs.map PyData.str).getD i .none = .str (xs.getD i Str.empty) := by
  simp [List.getD_eq_getElem?_getD, h]
/-! ### statements that draw nothing -/
theorem s_asg0 {i : Nat} (h : Ev K te ρ M s M) (k : ∀ σ H, Ok K F L σ H (ρ.set i s) M → D.nx σ H) (o : Ok K F L σ H ρ M) : tAsg te (gName i) D σ H := s_asg h k o
theorem s_asgN0 {i : Nat} (h : EvN K te ρ M ds M) (k : ∀ p σ H, Ok K F L σ H (ρ.set i (.loc (.ref p))) (M ++ [(p, .lst ds)]) → D.nx σ H) (o : Ok K F L σ H ρ M) : tAsg te (gName i) D σ H := s_asgN h k o
theorem s_drop0 (h : Ev K te ρ M s M) (k : ∀ σ H, Ok K F L σ H ρ M → D.nx σ H) (o : Ok K F L σ H ρ M) : tDrop te D σ H := s_drop h k o
theorem s_if0 {b : Bool} (h : EvT K tt ρ M b M) (h1 : b = true → ∀ H, Ok K F L σ H ρ M → tu D σ H) (h2 : b = false → ∀ H, Ok K F L σ H ρ M → tw D σ H) (o : Ok K F L σ H ρ M) : tIfS tt tu tw D σ H := s_if h h1 h2 o
theorem s_ifT0 (h : EvT K tt ρ M true M) (h1 : ∀ H, Ok K F L σ H ρ M → tu D σ H) (o : Ok K F L σ H ρ M) : tIfS tt tu tw D σ H := s_ifT h h1 o
theorem s_ifF0 (h : EvT K tt ρ M false M) (h1 : ∀ H, Ok K F L σ H ρ M → tw D σ H) (o : Ok K F L σ H ρ M) : tIfS tt tu tw D σ H := s_ifF h h1 o
theorem s_retP0 {r : PyData} (h : Ev K te ρ M (.dat r) M) (k : ∀ v H1, Same F H1 → Dp K (hid L H1) v r → D.rt v H1) (o : Ok K F L σ H ρ M) : tRet te D σ H := s_retP h k o
theorem s_retNN0 (h : EvN K te ρ M ds M) (k : ∀ p us H1, Same F H1 → F p = none → H1 p = some (.lst us) → DpAll K (hid (p :: L) H1) us ds → D.rt (.ref p) H1) (o : Ok K F L σ H ρ M) : tRet te D σ H := s_retNN h (fun p us H1 s hp _ _ h1 h2 => k p us H1 s hp h1 (DpAll.mono (hid_sub fun _ z => by
  rcases List.mem_cons.mp z with z | z
  · rw [z]; exact List.mem_cons_self
  · exact List.mem_cons_of_mem _ (List.mem_append_left _ z)) h2)) o
theorem s_retMN0 {p : Addr} (j : Nat) (h : Ev K te ρ M (.loc (.ref p)) M) (hj : M[j]? = some (p, .lst ds)) (k : ∀ p us H1, Same F H1 → F p = none → H1 p = some (.lst us) → DpAll K (hid (p :: L) H1) us ds → D.rt (.ref p) H1) (o : Ok K F L σ H ρ M) : tRet te D σ H := s_retMN j h hj (fun us H1 s hp _ _ h1 h2 => k p us H1 s hp h1 (DpAll.mono (hid_sub fun _ z => by
  rcases List.mem_cons.mp z with z | z
  · rw [z]; exact List.mem_append_right _ (mem_ad hj)
  · exact List.mem_append_left _ z) h2)) o
/-! ### isinstance -/
/-- the class's name of data -/
def tyD : PyData → String
  | .none => "NoneType" | .bool _ => "bool" | .int _ => "int" | .str _ => "str" | .list _ => "list" | .tuple _ => "tuple" | .dict _ => "list"
theorem ty_of {v : V} (h : Dp K H v d) : L2.TyX K H v (.type (tyD d)) := by
  cases h with
  | non => exact .base .non
  | bl b => exact .base (.bl b)
  | int i => exact .base (.int i)
  | str x => exact .base (.str x)
  | lst h a =>
    rcases h with h | ⟨o, h⟩
    · exact .base (.lst h)
    · exact .base (.frz h)
  | tup h a =>
    exact .base (.tup h)
  | scr h =>
    rcases h with (h | ⟨o, h⟩) | ⟨o, its, n, hk, hc, _⟩
    · exact .base (.lst h)
    · exact .base (.frz h)
    · exact .kList hk hc
/-- what isinstance(d, T) says, T one of int, bool, str, list, tuple -/
def isD : PyData → String → Bool
  | .bool _, T => T == "bool" || T == "int"
  | d, T => tyD d == T
theorem kit_all : ∀ a ∈ ["NoneType", "bool", "int", "str", "list", "tuple"], ∀ b ∈ ["bool", "int", "str", "list", "tuple"], kitB a b = some (if a == "bool" then b == "bool" || b == "int" else a == b) := by decide +kernel
theorem isD_kit {v : V} {T : String} (h : Dp K H v d) (hT : T ∈ ["bool", "int", "str", "list", "tuple"]) : kitB (tyD d) T = some (isD d T) := by
  cases h with
  | non => exact kit_all "NoneType" (by simp) T hT
  | bl b => exact kit_all "bool" (by simp) T hT
  | int i => exact kit_all "int" (by simp) T hT
  | str x => exact kit_all "str" (by simp) T hT
  | lst h a => exact kit_all "list" (by simp) T hT
  | tup h a => exact kit_all "tuple" (by simp) T hT
  | scr h => exact kit_all "list" (by simp) T hT
theorem ev_isi {T : String} (ha : Ev K ta ρ M (.dat d) M1) (hT : T ∈ ["bool", "int", "str", "list", "tuple"]) : Ev K (tCB (rIsi K) (tCons ta (tCons (tC (.ty T)) tNil))) ρ M (.dat (.bool (isD d T))) M1 := by
  refine ev_cb (ss := [.dat d, .loc (.ty T)]) (EvA.cons ha (EvA.cons (ev_c fun _ => rfl) EvA.nil)) fun F L σ H xs o hx Q q => ?_
  obtain ⟨x, c, rfl, h1, h2⟩ := two_of hx
  have ec : c = .ty T := h2
  subst ec
  have hd : Dp K H x d := Dp.mono (hid_le _ _) h1
  exact ⟨x, .ty T, .type (tyD d), .type T, isD d T, rfl, .ty T, ty_of hd, kit_ty (isD_kit hd hT), q _ H (Same.refl H) (.bl _)⟩
/-- isinstance(xs, list), xs a list that is being built -/
theorem ev_isiM {p : Addr} (ha : Ev K ta ρ M (.loc (.ref p)) M1) (hp : (p, MO.lst ds) ∈ M1) : Ev K (tCB (rIsi K) (tCons ta (tCons (tC (.ty "list")) tNil))) ρ M (.dat (.bool true)) M1 := by
  refine ev_cb (ss := [.loc (.ref p), .loc (.ty "list")]) (EvA.cons ha (EvA.cons (ev_c fun _ => rfl) EvA.nil)) fun F L σ H xs o hx Q q => ?_
  obtain ⟨x, c, rfl, h1, h2⟩ := two_of hx
  have ec : c = .ty "list" := h2
  have ex : x = .ref p := h1
  subst ec ex
  obtain ⟨vs, h3, _⟩ := o.ob _ hp
  exact ⟨.ref p, .ty "list", .type "list", .type "list", true, rfl, .ty _, .base (.lst h3), kit_ty (by decide +kernel), q _ H (Same.refl H) (.bl _)⟩
/-! ### tuple(x), list(range(..)), tuple(range(..)) -/
theorem ev_tupleL (h : Ev K te ρ M (.dat (.list ds)) M1) : Ev K (tThen te (kTup K)) ρ M (.dat (.tuple ds)) M1 := fun F L σ H o Q q => h F L σ H o _ fun x H1 o1 e1 a1 x1 => by
  obtain ⟨a, xs, rfl, h1, h2⟩ := list_of x1
  refine .inl ⟨a, xs, rfl, .inl (Rd.mono (hid_le _ _) h1), fun p hp => ?_⟩
  refine q _ _ (o1.new hp) e1 (a1.trans (same_new hp)) (.tup ?_ (DpAll.mono (hid_mono (same_new hp)) h2))
  rw [hid_out (by rw [← e1]; exact o1.fresh hp)]; exact upd_same
/-- .. of a list that was built -/
theorem ev_tupleM {p : Addr} (h : Ev K te ρ M (.loc (.ref p)) M1) (hp : (p, MO.lst ds) ∈ M1) : Ev K (tThen te (kTup K)) ρ M (.dat (.tuple ds)) M1 := fun F L σ H o Q q => h F L σ H o _ fun x H1 o1 e1 a1 x1 => by
  have ex : x = .ref p := x1
  subst ex
  obtain ⟨vs, h1, h2⟩ := o1.ob _ hp
  refine .inl ⟨p, vs, rfl, SqL.of h1, fun q' hp' => ?_⟩
  rw [e1] at h2
  refine q _ _ (o1.new hp') e1 (a1.trans (same_new hp')) (.tup ?_ (DpAll.mono (hid_mono (same_new hp')) h2))
  rw [hid_out (by rw [← e1]; exact o1.fresh hp')]; exact upd_same
def rgD (a b : Int) : List PyData := (List.range (b - a).toNat).map fun i => PyData.int (a + (i : Nat))
def rgI (a b : Int) : List Int := (List.range (b - a).toNat).map fun i => a + (i : Nat)
theorem rgD_eq (a b : Int) : rgD a b = (rgI a b).map PyData.int := by unfold rgD rgI; rw [List.map_map]; rfl
theorem rg_dp {a b : Int} : DpAll K H (rgV a b) ((rgI a b).map PyData.int) := by
  have e : rgV a b = (rgI a b).map V.int := by unfold rgV rgI; rw [List.map_map]; rfl
  rw [e]; exact ints_dp
/-- a range's ends -/
def EvR (K : PySem.W.Frag) (tr : L2.St → Hp → (Int → Int → Hp → Prop) → Prop) (ρ : List Sl) (M : Ms) (a b : Int) (M' : Ms) : Prop := ∀ F L σ H, Ok K F L σ H ρ M → ∀ Q : Int → Int → Hp → Prop, (∀ H1, Ok K F L σ H1 ρ M' → ad M' = ad M → Same (hid (ad M) H) H1 → Q a b H1) → tr σ H Q
theorem er_1 {b : Int} (h : Ev K ta ρ M (.dat (.int b)) M1) : EvR K (tRg1 ta) ρ M 0 b M1 := fun F L σ H o Q q => h F L σ H o _ fun x H1 o1 e1 a1 x1 => ⟨b, int_of x1, q H1 o1 e1 a1⟩
theorem er_2 {a b : Int} (h : Ev K ta ρ M (.dat (.int a)) M1) (h' : Ev K tb ρ M1 (.dat (.int b)) M2) : EvR K (tRg2 ta tb) ρ M a b M2 := fun F L σ H o Q q => h.two h' o fun x y H2 o2 e2 a2 hx hy => ⟨a, b, int_of hx, int_of hy, q H2 o2 e2 a2⟩
theorem evn_listR {tr : L2.St → Hp → (Int → Int → Hp → Prop) → Prop} {a b : Int} (h : EvR K tr ρ M a b M1) (hr : 0 ≤ a ∧ a ≤ 1000000 ∧ b ≤ 1000000 ∧ 0 ≤ b := by omega) : EvN K (tLstRg tr) ρ M ((rgI a b).map PyData.int) M1 := fun F L σ H o Q q => h F L σ H o _ fun H1 o1 e1 a1 => ⟨RgOk.of_le hr.1 (by omega) (by omega) hr.2.2.2, fun p hp =>
  q p _ _ (back_none o o1 e1 a1 hp) (o1.lay hp) e1 (a1.trans (same_new hp)) upd_same rg_dp⟩
theorem ev_tupR {tr : L2.St → Hp → (Int → Int → Hp → Prop) → Prop} {a b : Int} (h : EvR K tr ρ M a b M1) (hr : 0 ≤ a ∧ a ≤ 1000000 ∧ b ≤ 1000000 ∧ 0 ≤ b := by omega) : Ev K (tTupRg tr) ρ M (.dat (.tuple ((rgI a b).map PyData.int))) M1 := fun F L σ H o Q q => h F L σ H o _ fun H1 o1 e1 a1 => ⟨RgOk.of_le hr.1 (by omega) (by omega) hr.2.2.2, fun p hp => by
  refine q _ _ (o1.new hp) e1 (a1.trans (same_new hp)) (.tup ?_ rg_dp)
  rw [hid_out (by rw [← e1]; exact o1.fresh hp)]; exact upd_same⟩
end
/-! ### the defs of a text -/
structure Bl (mg : Str → Option Value) : Prop where
  abs_ : mg "abs" = none
  all_ : mg "all" = none
  enumerate_ : mg "enumerate" = none
  int_ : mg "int" = none
  isinstance_ : mg "isinstance" = none
  len_ : mg "len" = none
  list_ : mg "list" = none
  max_ : mg "max" = none
  min_ : mg "min" = none
  range_ : mg "range" = none
  set_ : mg "set" = none
  sorted_ : mg "sorted" = none
  str_ : mg "str" = none
  tuple_ : mg "tuple" = none
  zip_ : mg "zip" = none
  bool_ : mg "bool" = none
  repr_ : mg "repr" = none
  ValueError_ : mg "ValueError" = none
/-- the def x of the text, as the top has left it -/
def Raw (K : PySem.W.Frag) (mg : Str → Option Value) (x qual : Str) (st : Stmt) : Prop := ∃ f fd, Fun K x qual st f fd ∧ mg x = some (.ref f)
/-- .. and what it keeps -/
def Has (P : Program) (w : World) (K : PySem.W.Frag) (mg : Str → Option Value) (base : Heap) (k : Nat) (x : Str) (ps : List Str) (sp : Sp) : Prop := ∃ f fd, FnOk P w K mg base CX0 k f fd ps sp ∧ mg x = some (.ref f) ∧ PySem.W.keepIn K (.ref f) = true ∧ Binds K fd ps []
end Wm

namespace Wm
open PySem L2 PySem.Spec PyProof.Rows
section
variable {K : PySem.W.Frag} {F F' H H' H0 H1 : Hp} {L : List Addr} {σ σ' : L2.St} {ρ ρ' : List Sl} {M M' M1 M2 M3 Mn : Ms}
variable {te ta tb tc ti : TE} {tt : TT} {tr : TA} {s s1 s2 : Sl} {ss : List Sl} {d d1 d2 d3 : PyData} {ds es : List PyData} {D : Ends} {tu tw tv : TS} {g : TG} {wi : TI} {n : Nat} {item : Nat → PyData}
/-! ### a statement with more behind it -/
theorem s_next {X : L2.St → Hp → Prop} (h : X σ H) : tNext { nx := X, rt := D.rt, bk := D.bk, ct := D.ct } σ H := h
theorem q_asg {i : Nat} (h : Ev K te ρ M s M1) (k : ∀ σ H, Ok K F L σ H (ρ.set i s) M1 → tv D σ H) (o : Ok K F L σ H ρ M) : tSeq (tAsg te (gName i)) tv D σ H := s_asg (D := { D with nx := tv D }) h k o
theorem q_asgN {i : Nat} (h : EvN K te ρ M ds M1) (k : ∀ p σ H, Ok K F L σ H (ρ.set i (.loc (.ref p))) (M1 ++ [(p, .lst ds)]) → tv D σ H) (o : Ok K F L σ H ρ M) : tSeq (tAsg te (gName i)) tv D σ H := s_asgN (D := { D with nx := tv D }) h k o
theorem q_drop (h : Ev K te ρ M s M1) (k : ∀ σ H, Ok K F L σ H ρ M1 → tv D σ H) (o : Ok K F L σ H ρ M) : tSeq (tDrop te) tv D σ H := s_drop (D := { D with nx := tv D }) h k o
theorem q_assoc (h : tSeq tu (tSeq tw tv) D σ H) : tSeq (tSeq tu tw) tv D σ H := h
theorem q_ret (h : tRet te D σ H) : tSeq (tRet te) tv D σ H := h
theorem q_next (h : tv D σ H) : tSeq tNext tv D σ H := h
theorem q_if {b : Bool} (h : EvT K tt ρ M b M1) (h1 : b = true → ∀ H, Ok K F L σ H ρ M1 → tSeq tu tv D σ H) (h2 : b = false → ∀ H, Ok K F L σ H ρ M1 → tSeq tw tv D σ H) (o : Ok K F L σ H ρ M) : tSeq (tIfS tt tu tw) tv D σ H := s_if (D := { D with nx := tv D }) h h1 h2 o
/-- if c: ..; the rest -/
theorem q_if1 {b : Bool} (h : EvT K tt ρ M b M1) (h1 : b = true → ∀ H, Ok K F L σ H ρ M1 → tSeq tu tv D σ H) (h2 : b = false → ∀ H, Ok K F L σ H ρ M1 → tv D σ H) (o : Ok K F L σ H ρ M) : tSeq (tIfS tt tu tNext) tv D σ H := s_if (D := { D with nx := tv D }) h h1 h2 o
/-- if c: return ..; the rest -/
theorem q_ifR {b : Bool} (h : EvT K tt ρ M b M1) (h1 : b = true → ∀ H, Ok K F L σ H ρ M1 → tRet te D σ H) (h2 : b = false → ∀ H, Ok K F L σ H ρ M1 → tv D σ H) (o : Ok K F L σ H ρ M) : tSeq (tIfS tt (tRet te) tNext) tv D σ H := s_if (D := { D with nx := tv D }) h h1 h2 o
theorem q_ifF (h : EvT K tt ρ M false M1) (h2 : ∀ H, Ok K F L σ H ρ M1 → tv D σ H) (o : Ok K F L σ H ρ M) : tSeq (tIfS tt tu tNext) tv D σ H := q_if1 h (fun e => by cases e) (fun _ => h2) o
theorem q_app {p : Addr} {j : Nat} {ds0 : List PyData} (ha : Ev K ta ρ M (.loc (.ref p)) M) (h : Ev K te ρ M (.dat d) M1) (hj0 : M[j]? = some (p, .lst ds0)) (hj : M1[j]? = some (p, .lst ds)) (hz : ds.length < 1000000) (k : ∀ σ H, Ok K F L σ H ρ (M1.set j (p, .lst (ds ++ [d]))) → tv D σ H) (o : Ok K F L σ H ρ M) :
    tSeq (tDrop (tBM K "list" rAppend ta (tCons te tNil))) tv D σ H := s_app (D := { D with nx := tv D }) ha h hj0 hj hz k o
theorem q_setL {p : Addr} {j n : Nat} {i : Int} (h : Ev K te ρ M (.dat d) M1) (ha : Ev K ta ρ M1 (.loc (.ref p)) M2) (hi : Ev K ti ρ M2 (.dat (.int i)) M3) (hj : M3[j]? = some (p, .lst ds)) (hn : ixN ds.length i = some n) (k : ∀ σ H, Ok K F L σ H ρ (M3.set j (p, .lst (ds.set n d))) → tv D σ H) (o : Ok K F L σ H ρ M) :
    tSeq (tAsg te (gSub ta ti rSetL)) tv D σ H := s_setL (D := { D with nx := tv D }) h ha hi hj hn k o
theorem q_asg2 {i j : Nat} (h : Ev K te ρ M (.dat (.tuple [d1, d2])) M1) (k : ∀ σ H, Ok K F L σ H ((ρ.set i (.dat d1)).set j (.dat d2)) M1 → tv D σ H) (o : Ok K F L σ H ρ M) : tSeq (tAsg te (gTup K 2 (gCons (gName i) (gCons (gName j) gNil)))) tv D σ H := s_asg2 (D := { D with nx := tv D }) h k o
theorem q_par {i j : Nat} {ta : TA} (h : EvA K ta ρ M [s1, s2] M1) (k : ∀ σ H, Ok K F L σ H ((ρ.set i s1).set j s2) M1 → tv D σ H) (o : Ok K F L σ H ρ M) : tSeq (tPar i j ta) tv D σ H := s_par (D := { D with nx := tv D }) h k o
theorem q_for {js : List Nat} {up : Nat → List Sl → List Sl} (J : Nat → List Sl → Ms → Prop) (h : EvI K wi ρ M n item M1) (hg : ∀ i, i < n → EvG K g (item i) js (up i)) (h0 : J 0 ρ M1)
    (hs : ∀ F', Same F F' → ∀ i, i < n → ∀ ρ M, J i ρ M → ∀ σ H, Ok K F' L σ H (up i ρ) M → tu { nx := fun σ H => ∃ ρ M, J (i + 1) ρ M ∧ Ok K F' L σ H ρ M, rt := D.rt, bk := tv D, ct := fun σ H => ∃ ρ M, J (i + 1) ρ M ∧ Ok K F' L σ H ρ M } σ H)
    (hd : ∀ ρ M, J n ρ M → ∀ σ H, Ok K F L σ H ρ M → tv D σ H) (o : Ok K F L σ H ρ M) : tSeq (tFor wi g tu) tv D σ H := s_for (D := { D with nx := tv D }) J h hg h0 hs hd o
theorem q_while (J : Nat → List Sl → Ms → Prop) (m0 : Nat) (h0 : J m0 ρ M)
    (hs : ∀ m ρ M, J m ρ M → ∃ b M1, EvT K tt ρ M b M1 ∧ (b = true → ∀ σ H, Ok K F L σ H ρ M1 → tu { nx := fun σ H => ∃ m' ρ M, m' < m ∧ J m' ρ M ∧ Ok K F L σ H ρ M, rt := D.rt, bk := tv D, ct := fun σ H => ∃ m' ρ M, m' < m ∧ J m' ρ M ∧ Ok K F L σ H ρ M } σ H) ∧ (b = false → ∀ σ H, Ok K F L σ H ρ M1 → tv D σ H))
    (o : Ok K F L σ H ρ M) : tSeq (tWhile tt tu) tv D σ H := s_while (D := { D with nx := tv D }) J m0 h0 hs o
/-- .. draws nothing -/
theorem q_for0 {js : List Nat} {up : Nat → List Sl → List Sl} (J : Nat → List Sl → Ms → Prop) (h : EvI K wi ρ M n item M) (hg : ∀ i, i < n → EvG K g (item i) js (up i)) (h0 : J 0 ρ M)
    (hs : ∀ F', Same F F' → ∀ i, i < n → ∀ ρ M, J i ρ M → ∀ σ H, Ok K F' L σ H (up i ρ) M → tu { nx := fun σ H => ∃ ρ M, J (i + 1) ρ M ∧ Ok K F' L σ H ρ M, rt := D.rt, bk := tv D, ct := fun σ H => ∃ ρ M, J (i + 1) ρ M ∧ Ok K F' L σ H ρ M } σ H)
    (hd : ∀ ρ M, J n ρ M → ∀ σ H, Ok K F L σ H ρ M → tv D σ H) (o : Ok K F L σ H ρ M) : tSeq (tFor wi g tu) tv D σ H := q_for J h hg h0 hs hd o
theorem s_for0 {js : List Nat} {up : Nat → List Sl → List Sl} (J : Nat → List Sl → Ms → Prop) (h : EvI K wi ρ M n item M) (hg : ∀ i, i < n → EvG K g (item i) js (up i)) (h0 : J 0 ρ M)
    (hs : ∀ F', Same F F' → ∀ i, i < n → ∀ ρ M, J i ρ M → ∀ σ H, Ok K F' L σ H (up i ρ) M → tu { D with nx := fun σ H => ∃ ρ M, J (i + 1) ρ M ∧ Ok K F' L σ H ρ M, ct := fun σ H => ∃ ρ M, J (i + 1) ρ M ∧ Ok K F' L σ H ρ M, bk := D.nx } σ H)
    (hd : ∀ ρ M, J n ρ M → ∀ σ H, Ok K F L σ H ρ M → D.nx σ H) (o : Ok K F L σ H ρ M) : tFor wi g tu D σ H := s_for J h hg h0 hs hd o
theorem q_asg0 {i : Nat} (h : Ev K te ρ M s M) (k : ∀ σ H, Ok K F L σ H (ρ.set i s) M → tv D σ H) (o : Ok K F L σ H ρ M) : tSeq (tAsg te (gName i)) tv D σ H := q_asg h k o
theorem q_asgN0 {i : Nat} (h : EvN K te ρ M ds M) (k : ∀ p σ H, Ok K F L σ H (ρ.set i (.loc (.ref p))) (M ++ [(p, .lst ds)]) → tv D σ H) (o : Ok K F L σ H ρ M) : tSeq (tAsg te (gName i)) tv D σ H := q_asgN h k o
theorem q_drop0 (h : Ev K te ρ M s M) (k : ∀ σ H, Ok K F L σ H ρ M → tv D σ H) (o : Ok K F L σ H ρ M) : tSeq (tDrop te) tv D σ H := q_drop h k o
theorem q_if0 {b : Bool} (h : EvT K tt ρ M b M) (h1 : b = true → ∀ H, Ok K F L σ H ρ M → tSeq tu tv D σ H) (h2 : b = false → ∀ H, Ok K F L σ H ρ M → tSeq tw tv D σ H) (o : Ok K F L σ H ρ M) : tSeq (tIfS tt tu tw) tv D σ H := q_if h h1 h2 o
theorem q_if10 {b : Bool} (h : EvT K tt ρ M b M) (h1 : b = true → ∀ H, Ok K F L σ H ρ M → tSeq tu tv D σ H) (h2 : b = false → ∀ H, Ok K F L σ H ρ M → tv D σ H) (o : Ok K F L σ H ρ M) : tSeq (tIfS tt tu tNext) tv D σ H := q_if1 h h1 h2 o
theorem q_ifR0 {b : Bool} (h : EvT K tt ρ M b M) (h1 : b = true → ∀ H, Ok K F L σ H ρ M → tRet te D σ H) (h2 : b = false → ∀ H, Ok K F L σ H ρ M → tv D σ H) (o : Ok K F L σ H ρ M) : tSeq (tIfS tt (tRet te) tNext) tv D σ H := q_ifR h h1 h2 o
theorem q_ifF0 (h : EvT K tt ρ M false M) (h2 : ∀ H, Ok K F L σ H ρ M → tv D σ H) (o : Ok K F L σ H ρ M) : tSeq (tIfS tt tu tNext) tv D σ H := q_ifF h h2 o
end
end Wm

namespace Wm
open PySem L2 PySem.Spec PyProof.Rows
section
variable {K : PySem.W.Frag} {F F' H H' H0 H1 : Hp} {L L' : List Addr} {σ σ' : L2.St} {ρ ρ' : List Sl} {M M' M1 M2 M3 Mn : Ms}
variable {te ta tb tc ti : TE} {tt : TT} {tr : TA} {s s1 s2 : Sl} {ss : List Sl} {d d1 d2 d3 : PyData} {ds es : List PyData} {D : Ends} {tu tw tv : TS} {g : TG} {wi : TI} {n : Nat} {item : Nat → PyData}
theorem Walk.more {J : It} (w : Walk K F L J n item) (h : ∀ a ∈ L', a ∈ L ∨ F a = none) : Walk K F L' J n item := fun k G sG => ⟨fun hk => by
  obtain ⟨h1, h2⟩ := (w k G sG).1 hk
  refine ⟨h1, fun x G' hy => ?_⟩
  obtain ⟨h3, h4⟩ := h2 x G' hy
  refine ⟨h3, fun Y hY => h4 Y fun a ha => ⟨?_, (hY a ha).2⟩⟩
  rcases (hY a ha).1 with z | z
  · exact h a z
  · exact .inr z, (w k G sG).2⟩
theorem Ok.perm (o : Ok K F L σ H ρ M) (h : ∀ a, a ∈ L' ↔ a ∈ L) : Ok K F L' σ H ρ M where
  sl := Paired.mapP o.sl fun _ _ q => q.mono (hid_sub fun a ha => by
    rcases List.mem_append.mp ha with z | z
    · exact List.mem_append_left _ ((h a).mp z)
    · exact List.mem_append_right _ z)
  ob := fun x hx => (o.ob x hx).mono (hid_sub fun a ha => by
    rcases List.mem_append.mp ha with z | z
    · exact List.mem_append_left _ ((h a).mp z)
    · exact List.mem_append_right _ z) rfl
  nd := o.nd
  fr := o.fr
  fn := o.fn
  lv := fun a ha => o.lv a ((h a).mp ha)
/-- less is out of sight -/
theorem Ok.less (o : Ok K F L' σ H ρ M) (h : ∀ a, a ∈ L → a ∈ L') : Ok K F L σ H ρ M where
  sl := Paired.mapP o.sl fun _ _ q => q.mono (hid_sub fun a ha => by
    rcases List.mem_append.mp ha with z | z
    · exact List.mem_append_left _ (h a z)
    · exact List.mem_append_right _ z)
  ob := fun x hx => (o.ob x hx).mono (hid_sub fun a ha => by
    rcases List.mem_append.mp ha with z | z
    · exact List.mem_append_left _ (h a z)
    · exact List.mem_append_right _ z) rfl
  nd := o.nd
  fr := o.fr
  fn := o.fn
  lv := fun a ha => o.lv a (h a ha)
/-- the changing objects are only out of sight -/
theorem Ok.dropM (o : Ok K F L σ H ρ M) : Ok K F (ad M ++ L) σ H ρ [] where
  sl := Paired.mapP o.sl fun _ _ q => q.mono (hid_sub fun a ha => by
    simp only [ad, List.map_nil, List.append_nil, List.mem_append] at ha ⊢
    exact ha.symm)
  ob := fun x hx => by cases hx
  nd := by simp
  fr := o.fr
  fn := fun p hp => by simp at hp
  lv := fun a ha => by
    rcases List.mem_append.mp ha with z | z
    · exact o.there (List.mem_append_right _ z)
    · exact o.lv a z
/-- a changing object out of sight is told again -/
theorem Ok.pick (o : Ok K F L σ H ρ []) {p : Addr} {x : MO} (hp : p ∈ L) (hx : MOk K (hid L H) H p x) (hf : F' p = none) (sF : Same F' H) : Ok K F' L σ H ρ [(p, x)] := by
  have sub : ∀ a, a ∈ L ++ ad [(p, x)] → a ∈ L := fun a ha => by
    simp only [ad, List.map_cons, List.map_nil, List.mem_append, List.mem_singleton] at ha
    rcases ha with z | z
    · exact z
    · rw [z]; exact hp
  have e0 : L ++ ad ([] : Ms) = L := by simp
  refine ⟨Paired.mapP o.sl fun _ _ q => ?_, fun y hy => ?_, by simp [ad], sF, fun q hq => ?_, o.lv⟩
  · rw [e0] at q; exact q.mono (hid_sub sub)
  · have e : y = (p, x) := by simpa using hy
    subst e
    exact hx.mono (hid_sub sub) rfl
  · have e : q = p := by simpa [ad] using hq
    rw [e]; exact hf
/-! ### the law's bags: a list of lists that change -/
/-- the bags at the places ps, in the list at a; bd tells the j-th one -/
def BagsAt (K : PySem.W.Frag) (L : List Addr) (H0 H1 : Hp) (n : Nat) (bd : Nat → List PyData) (a : Addr) (ps : List Addr) : Prop :=
  H0 a = none ∧ (∀ p ∈ ps, H0 p = none) ∧ (a :: ps).Nodup ∧ ps.length = n ∧ H1 a = some (.lst (ps.map V.ref)) ∧ ∀ j (p : Addr), ps[j]? = some p → MOk K (hid (a :: (ps ++ L)) H1) H1 p (.lst (bd j))
/-- an expression that makes bags -/
def EvB (K : PySem.W.Frag) (te : TE) (ρ : List Sl) (n : Nat) (bd : Nat → List PyData) : Prop := ∀ F L σ H, Ok K F L σ H ρ [] → ∀ Q : VK, (∀ a ps H1, Same H H1 → BagsAt K L H H1 n bd a ps → Ok K F (a :: (ps ++ L)) σ H1 ρ [] → Q (.ref a) H1) → te σ H Q
theorem evb_lc {bd : Nat → List PyData} {j : Nat} (hi : EvI K wi ρ [] n item []) (hg : ∀ i, i < n → EvG K g (item i) [j] (fun ρ => ρ.set j (.dat (item i)))) (he : ∀ i, i < n → EvN K te ((wp ρ [j]).set j (.dat (item i))) [] (bd i) []) (hl : n ≤ 500000) : EvB K (tLc wi g tYes te [j]) ρ n bd := fun F L σ H o Q q => hi F L σ H o _ fun I H1 o1 e1 a1 w => fun A hA => by
  have sH1 : Same H H1 := by
    have h := a1
    rw [show ad ([] : Ms) = [] from rfl, hid_nil] at h; exact h
  have hA0 : H A = none := sH1.free hA
  rw [show ad ([] : Ms) = [] from rfl, hid_nil] at w
  refine ⟨fun i m H' => m = n - i ∧ i ≤ n ∧ ∃ ps, BagsAt K L H1 H' i bd A ps ∧ Ok K H1 (A :: (ps ++ L)) (wipe σ [j]) H' (wp ρ [j]) [], ⟨n, by simp, Nat.zero_le _, [], ⟨hA, by simp, by simp, rfl, upd_same, fun j p h => by simp at h⟩, ?_⟩, ?_⟩
  · have o3 := o1.lay (x := .lst []) hA
    have o4 : Ok K F (A :: ([] ++ L)) (wipe σ [j]) (upd H1 A (.lst [])) (wp ρ [j]) [] := { o3 with sl := paired_setn o3.sl [j] }
    exact { o4 with fr := same_new hA, fn := fun p hp => by simp at hp }
  rintro i m H2 ⟨rfl, hin, ps, ⟨b1, b2, b3, b4, b5, b6⟩, o2⟩
  by_cases hlt : i < n
  · have w' : Walk K H1 (A :: (ps ++ L)) I n item := w.more fun a ha => by
      rcases List.mem_cons.mp ha with z | z
      · rw [z]; exact .inr b1
      · rcases List.mem_append.mp z with z | z
        · exact .inr (b2 a z)
        · exact .inl z
    obtain ⟨go, hy⟩ := w'.turn o2 hlt
    refine .inr ⟨go, fun H' => i + 1 ≤ n ∧ ∃ ps, BagsAt K L H1 H' (i + 1) bd A ps ∧ Ok K H1 (A :: (ps ++ L)) (wipe σ [j]) H' (wp ρ [j]) [], fun H' p' => ⟨n - (i + 1), by omega, rfl, p'⟩, fun x H3 y => ?_⟩
    obtain ⟨o3, hx, s3⟩ := hy x H3 y
    refine hg i hlt _ _ _ H3 _ [] x o3 hx _ fun σ4 o4 ag hlen => ⟨?_, ?_⟩
    · rw [wipe_eq (by simp) ag hlen, wipe_idem]
    unfold tYes
    dsimp only
    rw [if_pos rfl]
    refine he i hlt _ _ σ4 H3 o4 _ fun p vs H4 hp o5 _ a5 h1 h2 => ?_
    rw [show ad ([] : Ms) = [] from rfl, hid_nil] at a5
    have s24 : Same H2 H4 := s3.trans a5
    have hp2 : H2 p = none := s3.free hp
    have hp1 : H1 p = none := o2.fr.free hp2
    have h4A : H4 A = some (.lst (ps.map V.ref)) := s24 _ _ b5
    have nA : A ≠ p := ne_of_none b5 hp2
    have nps : ∀ q ∈ ps, q ≠ p := fun q hq e => by
      have := o2.there (p := q) (List.mem_append_left _ (List.mem_cons_of_mem _ (List.mem_append_left _ hq)))
      rw [e] at this; exact this hp2
    have npA : ∀ q ∈ ps, q ≠ A := fun q hq e => by
      rw [List.nodup_cons] at b3; rw [e] at hq; exact b3.1 hq
    have per : ∀ a, a ∈ A :: ((ps ++ [p]) ++ L) ↔ a ∈ p :: (A :: (ps ++ L)) := fun a => by
      simp only [List.mem_cons, List.mem_append, List.not_mem_nil, or_false]
      constructor
      · rintro (z | (z | z) | z)
        · exact .inr (.inl z)
        · exact .inr (.inr (.inl z))
        · exact .inl z
        · exact .inr (.inr (.inr z))
      · rintro (z | z | z | z)
        · exact .inr (.inl (.inr z))
        · exact .inl z
        · exact .inr (.inl (.inl z))
        · exact .inr (.inr z)
    refine ⟨ps.map V.ref, h4A, by rw [List.length_map, b4]; exact line_lt (by omega), hlt, ps ++ [p], ⟨b1, ?_, ?_, by rw [List.length_append, b4]; rfl, by rw [List.map_append]; exact upd_same, ?_⟩, ?_⟩
    · intro q hq
      rcases List.mem_append.mp hq with z | z
      · exact b2 q z
      · have e : q = p := by simpa using z
        rw [e]; exact hp1
    · rw [List.nodup_cons] at b3 ⊢
      refine ⟨fun z => ?_, List.nodup_append.mpr ⟨b3.2, by simp, fun a ha b hb e => ?_⟩⟩
      · rcases List.mem_append.mp z with z | z
        · exact b3.1 z
        · exact nA (by simpa using z)
      · have e2 : b = p := by simpa using hb
        rw [e2] at e; exact nps a ha e
    · intro k q hk
      have hq : q ≠ A := fun e => by
        have hm := List.mem_of_getElem? hk
        rcases List.mem_append.mp hm with z | z
        · exact npA q z e
        · have e2 : q = p := by simpa using z
          exact nA (e.symm.trans e2)
      have hsub : ∀ (G : Hp), Same (hid (p :: (A :: (ps ++ L))) G) (hid (A :: ((ps ++ [p]) ++ L)) G) := fun G => hid_sub fun a ha => (per a).mp ha
      rw [hid_upd List.mem_cons_self]
      by_cases hk2 : k < ps.length
      · rw [List.getElem?_append_left hk2] at hk
        refine (b6 k q hk).mono (fun a z e => hsub _ _ _ ?_) ?_
        · obtain ⟨n1, e1⟩ := hid_some e
          refine hid_of (fun z2 => ?_) (s24 _ _ e1)
          rcases List.mem_cons.mp z2 with z2 | z2
          · rw [z2, hp2] at e1; cases e1
          · exact n1 z2
        · rw [upd_ne hq]
          obtain ⟨z, ez⟩ := (b6 k q hk).there
          rw [ez]; exact s24 _ _ ez
      · rw [List.getElem?_append_right (by omega)] at hk
        have hk3 : k - ps.length = 0 := by
          have := (List.getElem?_eq_some_iff.mp hk).1
          simp at this; omega
        rw [hk3] at hk
        have e : q = p := by simpa using hk.symm
        subst e
        have e3 : k = i := by omega
        subst e3
        refine ⟨vs, by rw [upd_ne hq]; exact h1, ?_⟩
        have h3 : DpAll K (hid (q :: (A :: (ps ++ L))) H4) vs (bd k) := by
          have := h2
          rw [show (A :: (ps ++ L)) ++ ad ([] : Ms) = A :: (ps ++ L) by simp] at this; exact this
        exact DpAll.mono (hsub _) h3
    · have o6 : Ok K H1 (A :: ((ps ++ [p]) ++ L)) σ4 H4 _ [] := o5.perm per
      have o7 : Ok K H1 (A :: ((ps ++ [p]) ++ L)) (wipe σ [j]) H4 (wp ρ [j]) [] :=
        { o6 with sl := Paired.mapP o2.sl fun _ _ q => q.mono (fun a z e => by
            obtain ⟨n1, e1⟩ := hid_some e
            refine hid_of (fun z2 => ?_) (s24 _ _ e1)
            simp only [ad, List.map_nil, List.append_nil] at z2 n1
            rcases List.mem_cons.mp ((per a).mp z2) with z2 | z2
            · rw [z2, hp2] at e1; cases e1
            · exact n1 z2) }
      exact o7.updL List.mem_cons_self b1 (by simp)
  · have e : i = n := by omega
    subst e
    refine .inl ⟨(w i H2 o2.fr).2 (Nat.le_refl _), ?_⟩
    refine q A ps H2 (sH1.trans o2.fr) ⟨hA0, fun p hp => sH1.free (b2 p hp), b3, b4, b5, b6⟩ ?_
    refine { o2 with sl := Paired.mapP o1.sl fun _ _ q => q.mono (fun a z e => ?_), fr := o1.fr.trans o2.fr, fn := fun p hp => by simp at hp }
    obtain ⟨n1, e1⟩ := hid_some e
    refine hid_of (fun z2 => ?_) (o2.fr _ _ e1)
    simp only [ad, List.map_nil, List.append_nil] at z2 n1
    rcases List.mem_cons.mp z2 with z2 | z2
    · rw [z2, b1] at e1; cases e1
    · rcases List.mem_append.mp z2 with z2 | z2
      · rw [b2 a z2] at e1; cases e1
      · exact n1 z2
/-- new things out of sight -/
theorem Ok.newL {N : List Addr} (o : Ok K F L σ H ρ M) (s : Same H H1) (hN : ∀ p ∈ N, H p = none ∧ H1 p ≠ none) : Ok K F (N ++ L) σ H1 ρ M := by
  have vis : Same (hid (L ++ ad M) H) (hid ((N ++ L) ++ ad M) H1) := fun a x e => by
    obtain ⟨n, e2⟩ := hid_some e
    refine hid_of (fun z => ?_) (s _ _ e2)
    rcases List.mem_append.mp z with z | z
    · rcases List.mem_append.mp z with z | z
      · rw [(hN a z).1] at e2; cases e2
      · exact n (List.mem_append_left _ z)
    · exact n (List.mem_append_right _ z)
  refine ⟨Paired.mapP o.sl fun _ _ q => q.mono vis, fun x hx => ?_, o.nd, o.fr.trans s, o.fn, fun a ha => ?_⟩
  · obtain ⟨y, e⟩ := (o.ob x hx).there
    exact (o.ob x hx).mono vis ((s _ _ e).trans e.symm)
  · rcases List.mem_append.mp ha with z | z
    · exact (hN a z).2
    · exact (o.mono s).lv a z
/-- a def that makes bags -/
def spB (K : PySem.W.Frag) (R : List PyData → Nat → (Nat → List PyData) → Prop) : Sp := fun vs H Q _ => ∃ L ds n bd, (∀ p ∈ L, H p ≠ none) ∧ DpAll K (hid L H) vs ds ∧ R ds n bd ∧ ∀ a ps H1, Same H H1 → BagsAt K L H H1 n bd a ps → Q (.ref a) H1
theorem evb_call {R : List PyData → Nat → (Nat → List PyData) → Prop} {E : XK} {bd : Nat → List PyData} (ha : EvD K tr ρ [] ds []) (hR : R ds n bd) : EvB K (tCall (spB K R) [] E tr) ρ n bd := fun F L σ H o Q q => ha F L σ H o _ fun vs H1 o1 e1 a1 x1 => by
  have sH1 : Same H H1 := by
    have h := a1
    rw [show ad ([] : Ms) = [] from rfl, hid_nil] at h; exact h
  refine ⟨L, ds, n, bd, fun p hp => o1.lv p hp, by rw [List.append_nil]; exact dpAll_of (by simpa using x1), hR, fun a ps H2 s2 hb => ?_⟩
  obtain ⟨b1, b2, b3, b4, b5, b6⟩ := hb
  refine q a ps H2 (sH1.trans s2) ⟨sH1.free b1, fun p hp => sH1.free (b2 p hp), b3, b4, b5, b6⟩ ?_
  have o2 := o1.newL (N := a :: ps) s2 fun p hp => by
    rcases List.mem_cons.mp hp with z | z
    · rw [z]; exact ⟨b1, by rw [b5]; exact fun z => nomatch z⟩
    · refine ⟨b2 p z, ?_⟩
      obtain ⟨k, hk⟩ := List.mem_iff_getElem?.mp z
      obtain ⟨y, e⟩ := (b6 k p hk).there
      rw [e]; exact fun z => nomatch z
  exact o2
/-- for bag in bags: .. -/
theorem q_bags {j : Nat} {bd : Nat → List PyData} (J : List Sl → Prop) (h : EvB K te ρ n bd) (h0 : J ρ)
    (hs : ∀ F' L' i p ρ (D' : Ends), i < n → J ρ → p ∈ L' → (∀ ρ M σ H, J ρ → Ok K F' L' σ H ρ M → D'.nx σ H) → ∀ σ H, Ok K F' L' σ H (ρ.set j (.loc (.ref p))) [(p, .lst (bd i))] → tu D' σ H)
    (hd : ∀ ρ, J ρ → ∀ σ H, Ok K F L σ H ρ [] → tv D σ H) (o : Ok K F L σ H ρ []) : tSeq (tFor (iList K te) (gName j) tu) tv D σ H := h F L σ H o _ fun a ps H1 sH1 hb o1 => by
  obtain ⟨b1, b2, b3, b4, b5, b6⟩ := hb
  have hFp : ∀ p ∈ ps, F p = none := fun p hp => o.fr.free (b2 p hp)
  refine ⟨a, rfl, ⟨ps.map V.ref, SqL.of b5⟩, for_list (K := K) (a := a) (xs := ps.map V.ref) (fun i σ H' => ∃ ρ L2, J ρ ∧ (∀ x, x ∈ a :: (ps ++ L) → x ∈ L2) ∧ Ok K F L2 σ H' ρ [] ∧ H' a = some (.lst (ps.map V.ref)) ∧ ∀ k (p : Addr), i ≤ k → ps[k]? = some p → MOk K (hid L2 H') H' p (.lst (bd k)))
    ⟨ρ, a :: (ps ++ L), h0, fun _ z => z, o1, b5, fun k p _ hk => b6 k p hk⟩ (fun i σ H' _ ⟨_, _, _, _, _, ha, _⟩ => SqL.of ha) ?_ ?_⟩
  · rintro i x σ2 H2 hx ⟨ρ2, L2, hJ, hL, o2, ha, hm⟩
    rw [List.getElem?_map] at hx
    cases hp : ps[i]? with
    | none => rw [hp] at hx; cases hx
    | some p =>
      rw [hp] at hx
      have ex : x = .ref p := (Option.some.inj hx).symm
      subst ex
      have pm : p ∈ ps := List.mem_of_getElem? hp
      have hi : i < n := by rw [← b4]; exact (List.getElem?_eq_some_iff.mp hp).1
      have pL : p ∈ L2 := hL p (List.mem_cons_of_mem _ (List.mem_append_left _ pm))
      have nap : a ≠ p := fun e => by rw [List.nodup_cons] at b3; rw [e] at b3; exact b3.1 pm
      have o3 : Ok K (hid [p] H2) L2 (σ2.set j (some (.ref p))) H2 (ρ2.set j (.loc (.ref p))) [(p, .lst (bd i))] := (Ok.set (s := .loc (.ref p)) o2 rfl).pick pL (hm i p (Nat.le_refl _) hp) (hid_in (by simp)) (hid_le _ _)
      refine hs (hid [p] H2) L2 i p ρ2 _ hi hJ pL (fun ρ3 M3 σ3 H3 hJ3 o4 => ?_) _ _ o3
      have o5 := o4.dropM
      have sF : Same F (hid [p] H2) := fun b y e => hid_of (fun z => by
        have e2 : b = p := by simpa using z
        rw [e2, hFp p pm] at e; cases e) (o2.fr b y e)
      refine ⟨ρ3, ad M3 ++ L2, hJ3, fun x hx => List.mem_append_right _ (hL x hx), o5.unfr sF, o4.fr _ _ (hid_of (by simpa using nap) ha), fun k q hk hq => ?_⟩
      have nqp : q ≠ p := fun e => by
        rw [List.nodup_cons] at b3
        have h1 := hq
        rw [e] at h1
        have := (List.getElem?_inj (List.getElem?_eq_some_iff.mp hp).1 b3.2).mp (hp.trans h1.symm)
        omega
      refine (hm k q (by omega) hq).mono (fun b y e => ?_) ?_
      · obtain ⟨n1, e1⟩ := hid_some e
        have nb : b ≠ p := fun z => n1 (by rw [z]; exact pL)
        have e2 : hid [p] H2 b = some y := hid_of (by simpa using nb) e1
        refine hid_of (fun z => ?_) (o4.fr _ _ e2)
        rcases List.mem_append.mp z with z | z
        · rw [o4.fn b z] at e2; cases e2
        · exact n1 z
      · obtain ⟨z, ez⟩ := (hm k q (by omega) hq).there
        rw [ez]; exact o4.fr _ _ (hid_of (by simpa using nqp) ez)
  · rintro σ2 H2 ⟨ρ2, L2, hJ, hL, o2, _, _⟩
    exact hd ρ2 hJ σ2 H2 (o2.less fun x hx => hL x (List.mem_cons_of_mem _ (List.mem_append_right _ hx)))
end
/-- a def that makes bags -/
theorem okB {P : Program} {w : World} {K : PySem.W.Frag} {mg : Str → Option Value} {base : Heap} {x qual : Str} {st : Stmt} {f : Addr} {fd : FuncData} {N ps : List Str} {k : Nat} {R : List PyData → Nat → (Nat → List PyData) → Prop} (Fn : Fun K x qual st f fd) (S : FnScope N ps (defScope st)) (hl : ∀ ds r bd, R ds r bd → ds.length = ps.length)
    (hb : ∀ cdv A outer s H E, Room k (A.deeper (envOfC qual (defScope st) s.heap.objs.size f cdv)) → ∃ t, PSs (cxOf CX0 P w K mg base N qual (defScope st) f cdv A outer s H E).nox (defBody st) t ∧
      ∀ ds n bd, R ds n bd → ∀ (F : Hp) L σ H (D : Ends), (∀ a ps H', Same H H' → BagsAt K L H H' n bd a ps → D.rt (.ref a) H') → Ok K F L σ H (st0 N (ds.map Sl.dat)) [] → t D σ H) :
    FnOk P w K mg base CX0 (k + 1) f fd ps (spB K R) := by
  refine Fn.ok S (fun vs H Q E h => ?_) (fun cdv A outer s H vs Q E hr h => ?_)
  · obtain ⟨L, ds, n, bd, lv, hd, hR, _⟩ := h
    rw [hd.length]; exact hl ds n bd hR
  · obtain ⟨L, ds, n, bd, lv, hd, hR, q⟩ := h
    obtain ⟨t, h1, h2⟩ := hb cdv A outer s H E hr
    exact ⟨t, h1, h2 ds n bd hR H L _ H _ (fun a ps H' s2 hB => q a ps H' s2 hB) (ok_start (of_dpAll (by simpa using hd)) lv (fun x hx => by cases hx) (by simp) (Same.refl H) (fun p hp => by simp at hp))⟩
end Wm

namespace Wm
open PySem L2 PySem.Spec PyProof.Rows
/-! ### data that may be compared -/
def Sh (n : Nat) (d : PyData) : Prop := d.canLay0 = true ∧ d.depth ≤ n
theorem Sh.shaped {n : Nat} {d : PyData} (h : Sh n d) (hn : n ≤ 64) : SeqAt.shaped d = true := by
  unfold SeqAt.shaped
  rw [h.1, decide_eq_true (Nat.le_trans h.2 hn)]; rfl
theorem sh_int {i : Int} : Sh 0 (.int i) := ⟨rfl, by simp [PyData.depth]⟩
theorem sh_bool {b : Bool} : Sh 0 (.bool b) := ⟨rfl, by simp [PyData.depth]⟩
theorem sh_none : Sh 0 .none := ⟨rfl, by simp [PyData.depth]⟩
theorem sh_str {x : Str} (h : PyData.strOk x = true) : Sh 0 (.str x) := ⟨by simpa [PyData.canLay0] using h, by simp [PyData.depth]⟩
theorem sh_all {n : Nat} : ∀ {ds : List PyData}, (∀ d ∈ ds, Sh n d) → PyData.canLayAll0 ds = true ∧ PyData.depthAll ds ≤ n
  | [], _ => ⟨rfl, by simp [PyData.depthAll]⟩
  | d :: ds, h => by
    obtain ⟨h1, h2⟩ := h d List.mem_cons_self
    obtain ⟨h3, h4⟩ := sh_all (ds := ds) fun e he => h e (List.mem_cons_of_mem _ he)
    refine ⟨by simp [PyData.canLayAll0, h1, h3], ?_⟩
    simp only [PyData.depthAll]; omega
theorem sh_list {n : Nat} {ds : List PyData} (h : ∀ d ∈ ds, Sh n d) : Sh (n + 1) (.list ds) := by
  obtain ⟨h1, h2⟩ := sh_all h
  exact ⟨by simpa [PyData.canLay0] using h1, by simp only [PyData.depth]; omega⟩
theorem sh_tuple {n : Nat} {ds : List PyData} (h : ∀ d ∈ ds, Sh n d) : Sh (n + 1) (.tuple ds) := by
  obtain ⟨h1, h2⟩ := sh_all h
  exact ⟨by simpa [PyData.canLay0] using h1, by simp only [PyData.depth]; omega⟩
theorem Sh.mono {m n : Nat} {d : PyData} (h : Sh m d) (e : m ≤ n) : Sh n d := ⟨h.1, Nat.le_trans h.2 e⟩
theorem sh_map {α : Type} {n : Nat} {f : α → PyData} {xs : List α} (h : ∀ x ∈ xs, Sh n (f x)) : ∀ d ∈ xs.map f, Sh n d := fun d hd => by
  obtain ⟨x, hx, rfl⟩ := List.mem_map.mp hd
  exact h x hx
theorem sh_dI {xs : List Int} : Sh 1 (.list (xs.map PyData.int)) := sh_list (sh_map fun _ _ => sh_int)
theorem sh_dTI {xs : List Int} : Sh 1 (.tuple (xs.map PyData.int)) := sh_tuple (sh_map fun _ _ => sh_int)
theorem sh_dS {ws : List Str} (h : ∀ w ∈ ws, PyData.strOk w = true) : Sh 1 (.list (ws.map PyData.str)) := sh_list (sh_map fun w hw => sh_str (h w hw))
theorem sh_dTS {ws : List Str} (h : ∀ w ∈ ws, PyData.strOk w = true) : Sh 1 (.tuple (ws.map PyData.str)) := sh_tuple (sh_map fun w hw => sh_str (h w hw))
/-! ### == -/
theorem eqv_int (i j : Int) : PyData.eqv (.int i) (.int j) = decide (i = j) := by simp [PyData.eqv, Bool.beq_eq_decide_eq]
theorem eqv_str (i j : Str) : PyData.eqv (.str i) (.str j) = decide (i = j) := by simp [PyData.eqv, Bool.beq_eq_decide_eq]
theorem eqv_all {α : Type} [DecidableEq α] {f : α → PyData} (hf : ∀ x y, PyData.eqv (f x) (f y) = decide (x = y)) : ∀ xs ys : List α, PyData.eqvAll (xs.map f) (ys.map f) = decide (xs = ys)
  | [], [] => by simp [PyData.eqvAll]
  | [], _ :: _ => by simp [PyData.eqvAll]
  | _ :: _, [] => by simp [PyData.eqvAll]
  | x :: xs, y :: ys => by
    simp only [List.map_cons, PyData.eqvAll, hf, eqv_all hf xs ys]
    by_cases h : x = y <;> by_cases h' : xs = ys <;> simp [h, h']
theorem eqv_list {α : Type} [DecidableEq α] {f : α → PyData} (hf : ∀ x y, PyData.eqv (f x) (f y) = decide (x = y)) (xs ys : List α) : PyData.eqv (.list (xs.map f)) (.list (ys.map f)) = decide (xs = ys) := by
  simp only [PyData.eqv]; exact eqv_all hf xs ys
theorem eqv_tuple {α : Type} [DecidableEq α] {f : α → PyData} (hf : ∀ x y, PyData.eqv (f x) (f y) = decide (x = y)) (xs ys : List α) : PyData.eqv (.tuple (xs.map f)) (.tuple (ys.map f)) = decide (xs = ys) := by
  simp only [PyData.eqv]; exact eqv_all hf xs ys
theorem eqv_dI (xs ys : List Int) : PyData.eqv (.list (xs.map PyData.int)) (.list (ys.map PyData.int)) = decide (xs = ys) := eqv_list eqv_int xs ys
theorem eqv_dS (xs ys : List Str) : PyData.eqv (.list (xs.map PyData.str)) (.list (ys.map PyData.str)) = decide (xs = ys) := eqv_list eqv_str xs ys
theorem eqv_dTI (xs ys : List Int) : PyData.eqv (.tuple (xs.map PyData.int)) (.tuple (ys.map PyData.int)) = decide (xs = ys) := eqv_tuple eqv_int xs ys
theorem eqv_dTS (xs ys : List Str) : PyData.eqv (.tuple (xs.map PyData.str)) (.tuple (ys.map PyData.str)) = decide (xs = ys) := eqv_tuple eqv_str xs ys
section
variable {K : PySem.W.Frag} {ρ ρ' : List Sl} {M M' M1 M2 M3 : Ms} {tt tu : TT} {ta tb : TE}
theorem et_andF (h1 : EvT K tt ρ M false M1) : EvT K (tAnd tt tu) ρ M false M1 := fun F L σ H o Q q => h1 F L σ H o _ fun H1 o1 e1 a1 => q H1 o1 e1 a1
theorem et_andT {b : Bool} (h1 : EvT K tt ρ M true M1) (h2 : EvT K tu ρ M1 b M2) : EvT K (tAnd tt tu) ρ M b M2 := fun F L σ H o Q q => h1 F L σ H o _ fun H1 o1 e1 a1 => h2 F L σ H1 o1 _ fun H2 o2 e2 a2 => q H2 o2 (e2.trans e1) (chain2 e1 a1 a2)
theorem et_orT (h1 : EvT K tt ρ M true M1) : EvT K (tOr tt tu) ρ M true M1 := fun F L σ H o Q q => h1 F L σ H o _ fun H1 o1 e1 a1 => q H1 o1 e1 a1
theorem et_orFM {b : Bool} (h1 : EvT K tt ρ M false M1) (h2 : EvT K tu ρ M1 b M2) : EvT K (tOr tt tu) ρ M b M2 := fun F L σ H o Q q => h1 F L σ H o _ fun H1 o1 e1 a1 => h2 F L σ H1 o1 _ fun H2 o2 e2 a2 => q H2 o2 (e2.trans e1) (chain2 e1 a1 a2)
theorem ev_iteT (h : EvT K tt ρ M true M1) {s : Sl} (h1 : Ev K ta ρ M1 s M2) : Ev K (tIf tt ta tb) ρ M s M2 := fun F L σ H o Q q => h F L σ H o _ fun H1 o1 e1 a1 => h1 F L σ H1 o1 _ fun v H2 o2 e2 a2 x2 => q v H2 o2 (e2.trans e1) (chain2 e1 a1 a2) (by rw [e1] at x2; exact x2)
theorem ev_iteF (h : EvT K tt ρ M false M1) {s : Sl} (h1 : Ev K tb ρ M1 s M2) : Ev K (tIf tt ta tb) ρ M s M2 := fun F L σ H o Q q => h F L σ H o _ fun H1 o1 e1 a1 => h1 F L σ H1 o1 _ fun v H2 o2 e2 a2 x2 => q v H2 o2 (e2.trans e1) (chain2 e1 a1 a2) (by rw [e1] at x2; exact x2)
theorem ev_ifM {b : Bool} (h : EvT K tt ρ M b M1) {s : Sl} (h1 : b = true → Ev K ta ρ M1 s M2) (h2 : b = false → Ev K tb ρ M1 s M2) : Ev K (tIf tt ta tb) ρ M s M2 := by
  cases b with
  | true => exact ev_iteT h (h1 rfl)
  | false => exact ev_iteF h (h2 rfl)
end
section
variable {K : PySem.W.Frag} {F F' H H' H0 H1 : Hp} {L : List Addr} {σ σ' : L2.St} {ρ ρ' : List Sl} {M M' M1 M2 M3 Mn : Ms}
variable {te ta tb tc ti : TE} {tt : TT} {tr : TA} {s s1 s2 : Sl} {ss : List Sl} {d d1 d2 d3 : PyData} {ds es : List PyData} {D : Ends} {tu tw tv : TS} {g : TG} {wi : TI} {n : Nat} {item : Nat → PyData}
/-- a name for a new list that will change; it is not of L -/
theorem s_asgNF {i : Nat} (h : EvN K te ρ M ds M1) (k : ∀ p σ H, p ∉ L → Ok K F L σ H (ρ.set i (.loc (.ref p))) (M1 ++ [(p, .lst ds)]) → D.nx σ H) (o : Ok K F L σ H ρ M) : tAsg te (gName i) D σ H := h F L σ H o _ fun p vs H1 hp o1 e1 a1 h1 h2 => by
  have hm : p ∉ ad M1 := by rw [e1]; exact mem_ad_of (Q := fun _ => True) o hp
  have hf : F p = none := o.fr.free hp
  have hL : p ∉ L := fun z => o.fresh hp (List.mem_append_left _ z)
  refine k p _ _ hL (Ok.set (Ok.add o1.lift ?_ ?_ hm hf ?_) rfl)
  · exact o1.sl
  · exact o1.ob
  · exact ⟨vs, h1, by rw [e1]; exact h2⟩
theorem q_asgNF {i : Nat} (h : EvN K te ρ M ds M1) (k : ∀ p σ H, p ∉ L → Ok K F L σ H (ρ.set i (.loc (.ref p))) (M1 ++ [(p, .lst ds)]) → tv D σ H) (o : Ok K F L σ H ρ M) : tSeq (tAsg te (gName i)) tv D σ H := s_asgNF (D := { D with nx := tv D }) h k o
theorem s_retTrue (h : Ev K te ρ M (.dat (.bool true)) M1) (k : ∀ H1, D.rt (.bl true) H1) (o : Ok K F L σ H ρ M) : tRet te D σ H := s_ret h (fun v H1 _ x1 => by rw [bl_of x1]; exact k H1) o
end
section
variable {K : PySem.W.Frag} {ρ ρ' : List Sl} {M M' M1 M2 M3 : Ms} {te : TE} {wi : TI} {n : Nat} {item item' : Nat → PyData}
theorem EvI.congr (h : EvI K wi ρ M n item M1) (e : ∀ i, i < n → item i = item' i) : EvI K wi ρ M n item' M1 := fun F L σ H o R q => h F L σ H o R fun J H1 o1 e1 a1 w => q J H1 o1 e1 a1 fun i G sG => ⟨fun hi => by
  obtain ⟨h1, h2⟩ := (w i G sG).1 hi
  rw [← e i hi]
  exact ⟨h1, h2⟩, (w i G sG).2⟩
theorem ei_listI {ns : List Int} (h : Ev K te ρ M (.dat (.list (ns.map PyData.int))) M1) : EvI K (iList K te) ρ M ns.length (fun i => .int (ns.getD i 0)) M1 := by
  have h1 := ei_list h
  rw [List.length_map] at h1
  exact h1.congr fun i hi => getD_map_int ns i hi
theorem ei_tupI {ns : List Int} (h : Ev K te ρ M (.dat (.tuple (ns.map PyData.int))) M1) : EvI K (iTup K te) ρ M ns.length (fun i => .int (ns.getD i 0)) M1 := by
  have h1 := ei_tup h
  rw [List.length_map] at h1
  exact h1.congr fun i hi => getD_map_int ns i hi
theorem ei_listS {ns : List Str} (h : Ev K te ρ M (.dat (.list (ns.map PyData.str))) M1) : EvI K (iList K te) ρ M ns.length (fun i => .str (ns.getD i Str.empty)) M1 := by
  have h1 := ei_list h
  rw [List.length_map] at h1
  exact h1.congr fun i hi => getD_map_str ns i hi
end
/-- law's: a list of at most 63 ints is handed in, True comes out -/
def spLaw (K : PySem.W.Frag) : Sp := fun vs H Q _ => ∃ (a : Addr) (ns : List Int), vs = [.ref a] ∧ SqL K H a (ns.map V.int) ∧ ns.length ≤ 63 ∧ ∀ H', Q (.bl true) H'
theorem okLaw {P : Program} {w : World} {K : PySem.W.Frag} {mg : Str → Option Value} {base : Heap} {x qual : Str} {st : Stmt} {f : Addr} {fd : FuncData} {N ps : List Str} {k : Nat} (Fn : Fun K x qual st f fd) (S : FnScope N ps (defScope st)) (hl : ps.length = 1)
    (hb : ∀ cdv A outer s H E, Room k (A.deeper (envOfC qual (defScope st) s.heap.objs.size f cdv)) → ∃ t, PSs (cxOf CX0 P w K mg base N qual (defScope st) f cdv A outer s H E).nox (defBody st) t ∧
      ∀ xs : List Int, xs.length ≤ 63 → ∀ (F : Hp) L σ H (D : Ends), (∀ H', D.rt (.bl true) H') → Ok K F L σ H (st0 N [.dat (dScr xs)]) [] → t D σ H) :
    FnOk P w K mg base CX0 (k + 1) f fd ps (spLaw K) := by
  refine Fn.ok S (fun vs H Q E h => ?_) (fun cdv A outer s H vs Q E hr h => ?_)
  · obtain ⟨a, ns, rfl, _⟩ := h
    rw [hl]; rfl
  · obtain ⟨a, ns, rfl, hS, hl, q⟩ := h
    obtain ⟨t, h1, h2⟩ := hb cdv A outer s H E hr
    refine ⟨t, h1, h2 ns hl H [] _ H _ q (ok_start (.cons ?_ .nil) (fun p hp => by simp at hp) (fun x hx => by cases hx) (by simp) (Same.refl H) (fun p hp => by simp at hp))⟩
    show Dp K (hid ([] ++ ad []) H) (.ref a) (dScr ns)
    rw [show ([] : List Addr) ++ ad [] = [] from rfl, hid_nil]
    exact .scr hS
end Wm

namespace Wm
open PySem L2 PySem.Spec PyProof.Rows
/-! the rules that name the written part, with it written out -/
section
variable {X : Cx} {K' : PySem.W.Frag} (hK : X.K = K')
include hK
theorem w_eqD (hu : X.A.units + 64 < cLine) : OpR X (compareOp .Eq) (rEqD K') := hK ▸ op_eqD hu
theorem w_neD (hu : X.A.units + 64 < cLine) : OpR X (compareOp .NotEq) (rNeD K') := hK ▸ op_neD hu
theorem w_in : OpR X (compareOp .In) (rIn K' false) := hK ▸ op_in_seq
theorem w_notIn : OpR X (compareOp .NotIn) (rIn K' true) := hK ▸ op_notIn_seq
theorem w_ixL : IxR X (rIxL K') := hK ▸ ix_list
theorem w_ixT : IxR X (rIxT K') := hK ▸ ix_tup
theorem w_slL : SlR X (rSlL K') := hK ▸ sl_list
theorem w_slT : SlR X (rSlT K') := hK ▸ sl_tup
theorem w_len : CallR X (.builtin "len") (rLen K') := hK ▸ c_len
theorem w_list : CallR X (.type "list") (rListOf K') := hK ▸ c_list
theorem w_isi : CallR X (.builtin "isinstance") (rIsi K') := hK ▸ call_isi
theorem w_all (hc : X.calm = true) : CallR X (.builtin "all") (rAll K') := hK ▸ cr_all hc
theorem w_max (hc : X.calm = true) : CallR X (.builtin "max") (rMax K') := hK ▸ cr_max hc
theorem w_min (hc : X.calm = true) : CallR X (.builtin "min") (rMin K') := hK ▸ cr_min hc
theorem wi_list {tg l : Expr} {tl : TE} (hl : PE X l tl) : PI X tg l (iList K' tl) := hK ▸ pi_list hl
theorem wi_tup {tg l : Expr} {tl : TE} (hl : PE X l tl) : PI X tg l (iTup K' tl) := hK ▸ pi_tup hl
theorem wi_enum {e : Expr} {ta : TA} {p pos tpos : Pos} {elts : List Expr} {kk : Nat} (hg : Gl X "enumerate") (hm : X.mg "enumerate" = none) (ha : PA X [e] ta) (hs : starEach [e] X.env = [(false, eval e X.env)] := by rfl) :
    PI X (.Tuple elts kk tpos) (.Call (.Name "enumerate" p) [e] [] pos) (iEnum K' ta) := hK ▸ pi_enum hg hm ha hs
theorem wi_zip {e e2 : Expr} {ta : TA} {p pos tpos : Pos} {elts : List Expr} {kk : Nat} (hg : Gl X "zip") (hm : X.mg "zip" = none) (ha : PA X [e, e2] ta)
    (hs : starEach [e, e2] X.env = (false, eval e X.env) :: starEach [e2] X.env := by rfl) (hpl : (backTo pos (starEach [e2] X.env)).any (·.1) = false := by rfl) :
    PI X (.Tuple elts kk tpos) (.Call (.Name "zip" p) [e, e2] [] pos) (iZip K' ta) := hK ▸ pi_zip hg hm ha hs hpl
theorem we_tupleOf {a : Expr} {ta : TE} {p pos : Pos} (hg : Gl X "tuple") (hm : X.mg "tuple" = none) (ha : PE X a ta) (na : starEach [a] X.env = (false, eval a X.env) :: starEach [] X.env := by rfl) :
    PE X (.Call (.Name "tuple" p) [a] [] pos) (tThen ta (kTup K')) := hK ▸ pe_tupleOf hg hm ha na
end
section
variable {K : PySem.W.Frag} {ρ ρ' : List Sl} {M M' M1 M2 M3 : Ms} {te : TE} {tr : TA} {wi : TI} {n : Nat} {item item' : Nat → PyData}
theorem ei_zipS {xs ys : List Str} (h : EvA K tr ρ M [.dat (.list (xs.map PyData.str)), .dat (.list (ys.map PyData.str))] M1) : EvI K (iZip K tr) ρ M (min xs.length ys.length) (fun i => .tuple [.str (xs.getD i Str.empty), .str (ys.getD i Str.empty)]) M1 := by
  have h1 := ei_zip h
  rw [List.length_map, List.length_map] at h1
  exact h1.congr fun i hi => by rw [getD_map_str xs i (by omega), getD_map_str ys i (by omega)]
theorem ei_zipI {xs ys : List Int} (h : EvA K tr ρ M [.dat (.list (xs.map PyData.int)), .dat (.list (ys.map PyData.int))] M1) : EvI K (iZip K tr) ρ M (min xs.length ys.length) (fun i => .tuple [.int (xs.getD i 0), .int (ys.getD i 0)]) M1 := by
  have h1 := ei_zip h
  rw [List.length_map, List.length_map] at h1
  exact h1.congr fun i hi => by rw [getD_map_int xs i (by omega), getD_map_int ys i (by omega)]
theorem ei_enumI {xs : List Int} (h : EvA K tr ρ M [.dat (.list (xs.map PyData.int))] M1) : EvI K (iEnum K tr) ρ M xs.length (fun i => .tuple [.int (i : Nat), .int (xs.getD i 0)]) M1 := by
  have h1 := ei_enum h
  rw [List.length_map] at h1
  exact h1.congr fun i hi => by rw [getD_map_int xs i hi]
theorem ei_enumS {xs : List Str} (h : EvA K tr ρ M [.dat (.list (xs.map PyData.str))] M1) : EvI K (iEnum K tr) ρ M xs.length (fun i => .tuple [.int (i : Nat), .str (xs.getD i Str.empty)]) M1 := by
  have h1 := ei_enum h
  rw [List.length_map] at h1
  exact h1.congr fun i hi => by rw [getD_map_str xs i hi]
end
/-! ### the least of a list -/
def lmin : List Int → Int
  | [] => 0
  | [x] => x
  | x :: y :: r => min x (lmin (y :: r))
theorem lmin_mem : ∀ {l : List Int}, l ≠ [] → lmin l ∈ l
  | [], h => absurd rfl h
  | [x], _ => by simp [lmin]
  | x :: y :: r, _ => by
    have ih := lmin_mem (l := y :: r) (by simp)
    unfold lmin
    rcases Int.le_total x (lmin (y :: r)) with h | h
    · rw [Int.min_eq_left h]; exact List.mem_cons_self
    · rw [Int.min_eq_right h]; exact List.mem_cons_of_mem _ ih
theorem lmin_le : ∀ {l : List Int} {x : Int}, x ∈ l → lmin l ≤ x
  | [], _, h => by simp at h
  | [x], y, h => by
    have e : y = x := by simpa using h
    rw [e]; exact Int.le_refl _
  | x :: y :: r, z, h => by
    unfold lmin
    rcases List.mem_cons.mp h with e | h
    · rw [e]; exact Int.min_le_left _ _
    · exact Int.le_trans (Int.min_le_right _ _) (lmin_le h)
theorem eqv_self {n : Nat} {d : PyData} (h : Sh n d) : PyData.eqv d d = true := SeqAt.eqv_refl d h.1
end Wm

/-! slices of tuples, whole and turned; two names at once, one of them a new list. -/
namespace Wm
open PySem L2 PySem.Spec PyProof.Rows HT
section
variable {prog : Program} {w : World} {A : Around} {E : Value → Shared → Prop} {s : Shared}
theorem rev_places (n : Nat) : Builtin.Slice.slicePlaces ((n : Int) - 1) (-1) (-1) = n := by
  unfold Builtin.Slice.slicePlaces
  rw [if_neg (by decide)]
  by_cases h : ((n : Int) - 1) > -1
  · rw [if_pos h]
    have e : ((n : Int) - 1 - (-1) - 1) / -(-1 : Int) = (n : Int) - 1 := by
      rw [show -(-1 : Int) = 1 by decide, Int.ediv_one]; omega
    rw [e]; omega
  · rw [if_neg h]; omega
theorem fm_congr {α β : Type} {f g : α → Option β} : ∀ {l : List α}, (∀ k ∈ l, f k = g k) → l.filterMap f = l.filterMap g
  | [], _ => rfl
  | a :: l, h => by rw [List.filterMap_cons, List.filterMap_cons, h a List.mem_cons_self, fm_congr fun k hk => h k (List.mem_cons_of_mem _ hk)]
theorem rev_pick (xs : Array Value) : ((List.range xs.size).filterMap fun (k : Nat) => xs[((xs.size : Int) - 1 + (k : Int) * (-1)).toNat]?).toArray = xs.toList.reverse.toArray := by
  congr 1
  have e : ∀ k ∈ List.range xs.size, xs[((xs.size : Int) - 1 + (k : Int) * (-1)).toNat]? = xs.toList.reverse[k]? := fun k hk => by
    have hk' := List.mem_range.mp hk
    have z : ((xs.size : Int) - 1 + (k : Int) * (-1)).toNat = xs.size - 1 - k := by omega
    rw [z, List.getElem?_reverse (by rw [Array.length_toList]; exact hk'), Array.getElem?_toList, Array.length_toList]
  rw [fm_congr e]
  have gen : ∀ (l : List Value), (List.range l.length).filterMap (fun k => l[k]?) = l := fun l => by
    induction l with
    | nil => rfl
    | cons a l ih =>
      rw [List.length_cons, List.range_succ_eq_map, List.filterMap_cons_some (b := a) (by rfl), List.filterMap_map]
      refine congrArg (a :: ·) (Eq.trans ?_ ih)
      rfl
  have := gen xs.toList.reverse
  rwa [List.length_reverse, Array.length_toList] at this
theorem sliceApplied_rev {sl : Addr} {vs : Value} {n : Nat} {Q : Int × Int × Nat → Shared → Prop} (hs : s.heap.IsSliceOf sl .none .none vs) (ps : IsPart vs (some (-1)))
    (h : Q ((n : Int) - 1, -1, n) s) : wpAny (model prog w) A (Builtin.Slice.sliceApplied (.ref sl) (pure (n : Int))) Q E s := by
  obtain ⟨os, hos, hcs, hds⟩ := id hs
  unfold Builtin.Slice.sliceApplied Builtin.Slice.sliceFields
  refine wpAny_bind (wpAny_bind (wpAny_field hos hds (x := .none) rfl (wpAny_bind (wpAny_field hos hds (x := .none) rfl (wpAny_bind (wpAny_field hos hds (x := vs) rfl (wpAny_pure ?_)))))))
  refine wpAny_bind (slicePart_ ps ?_)
  show wpAny _ _ (if ((-1 : Int) == 0) = true then _ else _) _ _ s
  rw [if_neg (by decide)]
  refine wpAny_bind (slicePart_none (wpAny_bind (slicePart_none (wpAny_bind (wpAny_pure ?_)))))
  show wpAny _ _ (pure ((n : Int) - 1, (-1 : Int), Builtin.Slice.slicePlaces ((n : Int) - 1) (-1) (-1))) _ _ s
  rw [rev_places]
  exact wpAny_pure h
theorem getItem_tuple_rev {t sl : Addr} {items : Array Value} {vs : Value} {Q : Value → Shared → Prop} (ht : IsTup s.heap t items) (hs : s.heap.IsSliceOf sl .none .none vs) (ps : IsPart vs (some (-1)))
    (h : Q (.ref s.heap.objs.size) { s with heap := s.heap.push { cls := .type "tuple", data := .seq items.toList.reverse.toArray } })
    (hsz : items.size ≤ sizeLine) : wpAny (model prog w) A (getItem (.ref t) (.ref sl)) Q E s := by
  have hz : sizeOk (.seq items.toList.reverse.toArray) := by
    show items.toList.reverse.toArray.size ≤ sizeLine
    rw [List.size_toArray, List.length_reverse, Array.length_toList]; exact hsz
  obtain ⟨os, hos, hcs, hds⟩ := id hs
  have hTs : s.TypeIs (.ref sl) "slice" := ⟨os, hos, hcs⟩
  unfold getItem
  try with_reducible refine wpAny_holding ?_
  first | refine wpAny_bind (wpAny_pure ?_) | skip
  refine wpAny_bind (wpAny_sequenceKey ht.typeIs (by decide) ?_)
  refine wpAny_bind (wpAny_callSpecial?_slot (name := Str.ofString "__getitem__") ht.typeIs PyProof.Rows.slot_tuple_getitem
    (wpAny_call_entry PyProof.Rows.slot_tuple_getitem ht.typeIs entry_tuple_getitem ?_ (args_tuple_getitem _ _)))
  show wpAny _ _ (Builtin.Tuple.tupleItemsOf (.ref t) >>= _) _ _ s
  refine wpAny_bind (tupleItemsOf_ ht ?_)
  refine wpAny_bind (wpAny_typeOf hTs ?_)
  rw [if_pos (by decide)]
  refine wpAny_bind (sliceApplied_rev hs ps ?_)
  have hno : ¬ (((items.size : Int) - 1 == 0 && (-1 : Int) == 1 && items.size == items.size) = true) := by
    rw [show ((-1 : Int) == 1) = false by decide, Bool.and_false, Bool.false_and]; decide
  show wpAny _ _ (if ((items.size : Int) - 1 == 0 && (-1 : Int) == 1 && items.size == items.size) = true then _ else _) _ _ s
  rw [if_neg hno, rev_pick]
  first
    | exact wpAny_bind (m := Builtin.Tuple.tupleExact _) (wpAny_newObj_type (wpAny_pure ⟨_, rfl, wpAny_pure h⟩) hz)
    | exact wpAny_bind (m := Builtin.Tuple.tupleExact _) (wpAny_newObj_type (wpAny_bind (wpAny_pure (wpAny_pure ⟨_, rfl, wpAny_pure h⟩))) hz)
    | exact wpAny_bind (wpAny_bind (m := Builtin.Tuple.tupleExact _) (wpAny_newObj_type (wpAny_pure (wpAny_pure ⟨_, rfl, wpAny_pure h⟩)) hz))
    | exact wpAny_bind (wpAny_bind (m := Builtin.Tuple.tupleExact _) (wpAny_newObj_type (wpAny_pure ⟨_, rfl, wpAny_pure h⟩) hz))
end
theorem sw_two {x y : Str} {px py pt pt2 : Pos} {a b : PySem.Expr} {kt k2 : _} {env : Env} (hk : env.scope.kind = .function) (hx : env.scope.names.lookup x = some .local) (hy : env.scope.names.lookup y = some .local) (hl : (py.line == px.line) = true) (hne : (x == y) = false)
    (hs : ([a, b].any fun | .Starred .. => true | _ => false) = false) (h1 : [a, b].all (foldedForSure 8) = false) (h2 : [a, b].all (constantsAlone 8) = false) :
    swappedStores [.Tuple [.Name x px, .Name y py] kt pt] (.Tuple [a, b] k2 pt2) env = pure (some [x, y]) := by
  have kx : env.kindOf x = some .local := hx
  have ky : env.kindOf y = some .local := hy
  have hb : env.blockKind = .function := by unfold Env.blockKind; rw [hk]; rfl
  have hyx : (y == x) = false := by
    cases e : y == x with
    | false => rfl
    | true => rw [eq_of_beq e, beq_self_eq_true] at hne; cases hne
  have e1 : [PySem.Expr.Name x px, .Name y py].filterMap (fun
    | .Name id pos => if env.kindOf id == some .local && pos.line == px.line then some id else none
    | _ => none) = [x, y] := by
    simp only [List.filterMap_cons, kx, ky, beq_self_eq_true, Bool.true_and, hl, if_true, List.filterMap_nil]
  have e2 : [x, y].eraseDups = [x, y] := by
    rw [List.eraseDups_cons, List.filter_cons]
    simp [hyx, List.eraseDups_cons]
  unfold swappedStores
  dsimp only
  refine (if_neg ?_).trans ((if_neg ?_).trans ((if_neg ?_).trans ((if_neg ?_).trans ((if_neg ?_).trans ?_))))
  · rw [hb]; exact fun z => nomatch z
  · rw [Bool.not_eq_true]; exact hs
  · refine (congrArg (fun l : List Str => ¬ (l.length != 2 || l.eraseDups.length != l.length) = true) e1).mpr ?_
    rw [e2]; exact fun z => nomatch z
  · rw [Bool.not_eq_true]; exact h1
  · rw [Bool.not_eq_true]; exact h2
  · exact congrArg (fun l : List Str => (pure (some l) : Sem _)) e1
section
variable {X : Cx}
def tRevT (K : PySem.W.Frag) (te : TE) : TE := fun σ H Q => te σ H fun x H1 => ∃ a xs, x = .ref a ∧ SqT K H1 a xs ∧ ∀ p, H1 p = none → Q (.ref p) (upd H1 p (.tup xs.reverse))
theorem pe_revT {e : PySem.Expr} {te : TE} {k : Nat} {p1 p2 p3 pos : Pos} (he : PE X e te) : PE X (.Subscript e (.Slice none none (some (.UnaryOp .USub (.Constant (.int 1) k p1) p2)) p3) pos) (tRevT X.K te) := by
  refine ⟨fun pins s σ H Q I h => ?_⟩
  refine Subscript_ (thn (he.run pins s σ H _ I h) fun v s1 ⟨x, H1, I1, r1, q1⟩ => ?_)
  obtain ⟨a, xs, ex, hx, q⟩ := q1
  subst ex
  cases r1
  have hst : PO X (some (.UnaryOp .USub (.Constant (.int 1) k p1) p2)) (tPart (tUn (rU fun i => .int (-i)) (tC (.int 1)))) := po_some (pe_un un_neg pe_int)
  refine wpAny_Slice (thn (po_none.run pins s1 σ H1 (fun o H2 => o = none ∧ H2 = H1) I1 ⟨rfl, rfl⟩) fun vl s2 ⟨l, H2, I2, pl, el, e2⟩ => ?_)
  subst el e2
  cases pl
  refine thn (po_none.run pins s2 σ H2 (fun o H3 => o = none ∧ H3 = H2) I2 ⟨rfl, rfl⟩) fun vu s3 ⟨u, H3, I3, pu, eu, e3⟩ => ?_
  subst eu e3
  cases pu
  refine thn (hst.run pins s3 σ H3 (fun o H4 => o = some (-1) ∧ H4 = H3) I3 ⟨1, rfl, -1, rfl, rfl, rfl⟩) fun vs s4 ⟨o, H4, I4, ps, eo, e4⟩ => ?_
  subst eo e4
  have I5 : Inv X pins σ H4 { s4 with heap := s4.heap.push { cls := .type "slice", data := .fields #[.none, .none, vs] } } := I4.kept (t' := s4.toks) fun b ob q => Heap.get?_push_of_some _ q
  obtain ⟨its, r, ht, hz⟩ := I5.tuple hx
  have hlen : its.toArray.size = xs.length := by rw [List.size_toArray]; exact r.length.symm
  show wpAny (model X.prog X.w) X.A (subscriptTail e (.Slice none none (some (.UnaryOp .USub (.Constant (.int 1) k p1) p2)) p3) (.ref a) (.ref s4.heap.objs.size)) (EP X pins σ Q) X.xe { s4 with heap := s4.heap.push { cls := .type "slice", data := .fields #[.none, .none, vs] } }
  refine tail_any (ops := [.ref a, .ref s4.heap.objs.size]) ht.typeIs (PyProof.Rows.slot_tuple_getitem.lookup) ?_ (by with_unfolding_all rfl)
  refine getItem_tuple_rev ht (Heap.IsSliceOf.new _ .none .none vs) ps ?_ (by rw [hlen]; exact hz)
  refine ⟨.ref _, _, I5.laid (t' := s4.toks) (o := .tup xs.reverse) (fun b ob q => Heap.get?_push_of_some _ q) (Nat.le_refl _) ?_, rfl, q _ (I5.hok.fresh (Nat.le_refl _))⟩
  exact ⟨by rw [List.length_reverse]; exact hz, _, by simpa using r.reverse, IsTup.new _ _⟩
variable {K' : PySem.W.Frag} (hK : X.K = K')
include hK
theorem w_slA : SlR X (rSlA K') := hK ▸ sl_tupA
theorem we_revT {e : PySem.Expr} {te : TE} {k : Nat} {p1 p2 p3 pos : Pos} (he : PE X e te) : PE X (.Subscript e (.Slice none none (some (.UnaryOp .USub (.Constant (.int 1) k p1) p2)) p3) pos) (tRevT K' te) := hK ▸ pe_revT he
theorem we_revL {e : PySem.Expr} {te : TE} {k : Nat} {p1 p2 p3 pos : Pos} (he : PE X e te) : PE X (.Subscript e (.Slice none none (some (.UnaryOp .USub (.Constant (.int 1) k p1) p2)) p3) pos) (tRevL K' te) := hK ▸ pe_revL he
end
section
variable {K : PySem.W.Frag} {F F' H H' H0 H1 : Hp} {L : List Addr} {σ : L2.St} {ρ ρ' : List Sl} {M M' M1 M2 M3 : Ms}
variable {te ta tb tc ti : TE} {tt : TT} {tr : TA} {s s1 s2 : Sl} {ss : List Sl} {d d1 d2 : PyData} {ds es : List PyData} {D : Ends} {tu tw tv : TS} {g : TG}
theorem ev_tupNew (h : ∀ F L σ H, Ok K F L σ H ρ M → ∀ Q : VK, (∀ p vs H1, Ok K F L σ H1 ρ M1 → ad M1 = ad M → Same (hid (ad M) H) H1 → H1 p = none → DpAll K (hid (L ++ ad M) H1) vs ds → Q (.ref p) (upd H1 p (.tup vs))) → te σ H Q) : Ev K te ρ M (.dat (.tuple ds)) M1 := fun F L σ H o Q q => h F L σ H o Q fun p vs H1 o1 e1 a1 hp h2 => by
  refine q _ _ (o1.new hp) e1 (a1.trans (same_new hp)) (.tup ?_ (DpAll.mono (hid_mono (same_new hp)) h2))
  rw [hid_out (by rw [← e1]; exact o1.fresh hp)]; exact upd_same
theorem ev_slT {tl th : TO} {lo hi : Option Int} (ha : Ev K ta ρ M (.dat (.tuple ds)) M1) (hl : EvO K tl ρ M1 lo M2) (hh : EvO K th ρ M2 hi M3) : Ev K (tSl (rSlA K) ta tl th) ρ M (.dat (.tuple (cutD ds lo hi))) M3 := fun F L σ H o Q q =>
  ha F L σ H o _ fun x H1 o1 e1 a1 x1 => hl F L σ H1 o1 _ fun H2 o2 e2 a2 => hh F L σ H2 o2 _ fun H3 o3 e3 a3 => by
    have x3 := later (e2.trans e1) a3 (later e1 a2 x1)
    have x3' := x3
    obtain ⟨a, ys, rfl, h1, h2⟩ := tup_of x3
    have a13 := chain2 (e2.trans e1) (chain2 e1 a1 a2) a3
    have e13 := e3.trans (e2.trans e1)
    refine ⟨a, ys, rfl, SqT.vis h1, fun hw => q _ H3 o3 e13 a13 ?_, fun hw p hp => q _ _ (o3.new hp) e13 (a13.trans (same_new hp)) (.tup ?_ (DpAll.mono (hid_mono (same_new hp)) (cut_dp h2)))⟩
    · have e : cutD ds lo hi = ds := by
        unfold cutD
        rw [← h2.length]
        rw [hw.1, hw.2, List.drop_zero, Nat.sub_zero, h2.length, List.take_length]
      rw [e]; exact x3'
    · rw [hid_out (by rw [← e13]; exact o3.fresh hp)]; exact upd_same
theorem ev_revT (ha : Ev K ta ρ M (.dat (.tuple ds)) M1) : Ev K (tRevT K ta) ρ M (.dat (.tuple ds.reverse)) M1 := fun F L σ H o Q q =>
  ha F L σ H o _ fun x H1 o1 e1 a1 x1 => by
    obtain ⟨a, ys, rfl, h1, h2⟩ := tup_of x1
    refine ⟨a, ys, rfl, SqT.vis h1, fun p hp => q _ _ (o1.new hp) e1 (a1.trans (same_new hp)) (.tup ?_ (DpAll.mono (hid_mono (same_new hp)) h2.reverse))⟩
    rw [hid_out (by rw [← e1]; exact o1.fresh hp)]; exact upd_same
theorem evn_revL (ha : Ev K ta ρ M (.dat (.list ds)) M1) : EvN K (tRevL K ta) ρ M ds.reverse M1 := fun F L σ H o Q q =>
  ha F L σ H o _ fun x H1 o1 e1 a1 x1 => by
    obtain ⟨a, ys, rfl, h1, h2⟩ := list_of x1
    exact ⟨a, ys, rfl, SqL.vis h1, fun p hp => q p _ _ (back_none o o1 e1 a1 hp) (o1.lay hp) e1 (a1.trans (same_new hp)) upd_same (DpAll.mono (same_lay hp) h2.reverse)⟩
theorem ev_neB {a b : Bool} (ha : Ev K ta ρ M (.dat (.bool a)) M1) (hb : Ev K tb ρ M1 (.dat (.bool b)) M2) : Ev K (tOp rNe ta tb) ρ M (.dat (.bool (!decide (a = b)))) M2 := ev_op ha hb fun F L σ H x y o hx hy Q q => by
  rw [bl_of hx, bl_of hy]
  refine ⟨rfl, q _ H (Same.refl H) ?_⟩
  rw [show decide (V.bl a = V.bl b) = decide (a = b) by simp]
  exact .bl _
theorem ev_eqB {a b : Bool} (ha : Ev K ta ρ M (.dat (.bool a)) M1) (hb : Ev K tb ρ M1 (.dat (.bool b)) M2) : Ev K (tOp rEq ta tb) ρ M (.dat (.bool (decide (a = b)))) M2 := ev_op ha hb fun F L σ H x y o hx hy Q q => by
  rw [bl_of hx, bl_of hy]
  refine ⟨rfl, q _ H (Same.refl H) ?_⟩
  rw [show decide (V.bl a = V.bl b) = decide (a = b) by simp]
  exact .bl _
theorem inV_ints (i : Int) : ∀ ns : List Int, inV (.int i) (ns.map V.int) = decide (i ∈ ns)
  | [] => rfl
  | n :: ns => by
    have ih := inV_ints i ns
    unfold inV at ih ⊢
    rw [List.map_cons, List.any_cons, ih]
    by_cases e : n = i
    · subst e; simp [eqV]
    · rw [show eqV (.int n) (.int i) = false by simp [eqV, e], Bool.false_or]
      exact decide_eq_decide.mpr ⟨fun h => List.mem_cons_of_mem _ h, fun h => by
        rcases List.mem_cons.mp h with z | z
        · exact absurd z.symm e
        · exact z⟩
theorem ev_inTI {i : Int} {ns : List Int} {neg : Bool} (ha : Ev K ta ρ M (.dat (.int i)) M1) (hb : Ev K tb ρ M1 (.dat (.tuple (ns.map PyData.int))) M2) : Ev K (tOp (rIn K neg) ta tb) ρ M (.dat (.bool (if neg then !decide (i ∈ ns) else decide (i ∈ ns)))) M2 := ev_op ha hb fun F L σ H x y o hx hy Q q => by
  obtain ⟨a, ys, rfl, h1, h2⟩ := tup_of hy
  have e := dp_ints h2
  subst e
  rw [int_of hx]
  refine ⟨a, _, rfl, .inr (SqT.vis h1), rfl, by simp [List.all_map, flatV, Function.comp_def], ?_⟩
  rw [inV_ints]
  exact q _ H (Same.refl H) (.bl _)
theorem ev_inLI {i : Int} {ns : List Int} {neg : Bool} (ha : Ev K ta ρ M (.dat (.int i)) M1) (hb : Ev K tb ρ M1 (.dat (.list (ns.map PyData.int))) M2) : Ev K (tOp (rIn K neg) ta tb) ρ M (.dat (.bool (if neg then !decide (i ∈ ns) else decide (i ∈ ns)))) M2 := ev_op ha hb fun F L σ H x y o hx hy Q q => by
  obtain ⟨a, ys, rfl, h1, h2⟩ := list_of hy
  have e := dp_ints h2
  subst e
  rw [int_of hx]
  refine ⟨a, _, rfl, .inl (SqL.vis h1), rfl, by simp [List.all_map, flatV, Function.comp_def], ?_⟩
  rw [inV_ints]
  exact q _ H (Same.refl H) (.bl _)
theorem upd_upd (H : Hp) (p : Addr) (x y : HO) : upd (upd H p x) p y = upd H p y := by
  funext a
  by_cases e : a = p
  · subst e; rw [upd_same, upd_same]
  · rw [upd_ne e, upd_ne e, upd_ne e]
/-- {a: b, ..}[w] of three texts -/
theorem ev_swap3 {ty : TE} {a1 b1 a2 b2 a3 b3 u v : Str} (hy : Ev K ty ρ M (.dat (.str u)) M1) (hv : valV (mergeK [] [((.inr a1 : Key), V.str b1), (.inr a2, .str b2), (.inr a3, .str b3)]) (.inr u) = some (.str v)) :
    Ev K (tDGet (tDisp [(tC (.str a1), tC (.str b1)), (tC (.str a2), tC (.str b2)), (tC (.str a3), tC (.str b3))]) ty) ρ M (.dat (.str v)) M1 := fun F L σ H o Q q => fun p hp => by
  refine ⟨upd_same, [((.inr a1 : Key), V.str b1), (.inr a2, .str b2), (.inr a3, .str b3)], rfl, by simp, ?_⟩
  rw [upd_upd]
  have hm : p ∉ ad M := fun z => o.fresh hp (List.mem_append_right _ z)
  refine hy F L σ _ (o.new hp) _ fun y H2 o2 e2 a2 y2 => ⟨p, .str v, rfl, ?_, q _ H2 o2 e2 (Same.trans (hid_mono (same_new hp)) a2) (.str v)⟩
  rw [str_of y2, ← hv]
  exact DGet.k (k := .inr u) (a2 p _ (by rw [hid_out hm]; exact upd_same))
/-- two names at once: a new list that will change, and a thing that is data -/
theorem s_parN {i j : Nat} (h : EvN K ta ρ M ds M1) (h2 : Ev K tb ρ M1 (.dat d) M2) (k : ∀ p σ H, p ∉ L → Ok K F L σ H ((ρ.set i (.loc (.ref p))).set j (.dat d)) (M2 ++ [(p, .lst ds)]) → D.nx σ H) (o : Ok K F L σ H ρ M) : tPar i j (tCons ta (tCons tb tNil)) D σ H := h F L σ H o _ fun p vs H1 hp o1 e1 a1 g1 g2 => h2 F (p :: L) σ H1 o1 _ fun y H2 o2 e2 a2 y2 => by
  have hm : p ∉ ad M1 := by rw [e1]; exact mem_ad_of (Q := fun _ => True) o hp
  have hm2 : p ∉ ad M2 := by rw [e2]; exact hm
  have hf : F p = none := o.fr.free hp
  have hL : p ∉ L := fun z => o.fresh hp (List.mem_append_left _ z)
  have g1' : H2 p = some (.lst vs) := a2 p _ (by rw [hid_out hm]; exact g1)
  have sub : Same (hid (p :: (L ++ ad M1)) H1) (hid (p :: (L ++ ad M1)) H2) := fun a x q => by
    obtain ⟨n, e⟩ := hid_some q
    rw [hid_out n]
    exact a2 a x (by rw [hid_out (fun z => n (List.mem_cons_of_mem _ (List.mem_append_right _ z)))]; exact e)
  refine ⟨.ref p, y, rfl, k p _ _ hL (Ok.set (Ok.set (v := .ref p) (s := .loc (.ref p)) (Ok.add o2.lift ?_ ?_ hm2 hf ?_) rfl) ?_)⟩
  · exact o2.sl
  · exact o2.ob
  · refine ⟨vs, g1', ?_⟩
    rw [e2]
    exact DpAll.mono sub (by rw [e1]; exact g2)
  · have y3 : SlOk K (hid (p :: L ++ ad M2) H2) y (.dat d) := by rw [e2]; exact y2
    refine y3.mono (hid_sub fun a ha => ?_)
    simp only [ad, List.map_append, List.map_cons, List.map_nil, List.mem_append, List.mem_cons, List.not_mem_nil, or_false, List.cons_append] at ha ⊢
    rcases ha with z | z | z
    · exact .inr (.inl z)
    · exact .inr (.inr z)
    · exact .inl z
theorem q_parN {i j : Nat} (h : EvN K ta ρ M ds M1) (h2 : Ev K tb ρ M1 (.dat d) M2) (k : ∀ p σ H, p ∉ L → Ok K F L σ H ((ρ.set i (.loc (.ref p))).set j (.dat d)) (M2 ++ [(p, .lst ds)]) → tv D σ H) (o : Ok K F L σ H ρ M) : tSeq (tPar i j (tCons ta (tCons tb tNil))) tv D σ H := s_parN (D := { D with nx := tv D }) h h2 k o
end
end Wm

/-! sets of tuples of leaves (texts among them), and how many they hold: generic over the kind of the leaves. -/
namespace Wm
open PySem L2 PySem.Spec PyProof.Rows
section
variable {κ : Type} [DecidableEq κ] {P : Program} {w : World} {knd : KeyKind P w κ} {A : Around} {E : Value → Shared → Prop} {s : Shared}
/-- of no class statement, and a word on whether hashed by value -/
structure Leafy (knd : KeyKind P w κ) : Prop where
  cls : ∀ k v, knd.is k v = true → ∀ n, ofAClassStatement n v = pure false
  byv : ∀ k v, knd.is k v = true → ∀ n, ∃ b, hashByValue n v = pure b
theorem leafy_str {P : Program} {w : World} : Leafy (strKind P w) where
  cls := fun k v h n => by
    obtain ⟨t, rfl⟩ := Value.isStrOf_shape h
    cases n <;> rfl
  byv := fun k v h n => by
    obtain ⟨t, rfl⟩ := Value.isStrOf_shape h
    exact ⟨false, by cases n <;> rfl⟩
theorem items_leafy (lf : Leafy knd) {k : List κ} {vs : List Value} (h : ItemsAre knd k vs) : ∀ v ∈ vs, (∀ n, ofAClassStatement n v = pure false) ∧ ∀ n, ∃ b, hashByValue n v = pure b := by
  induction h with
  | nil => exact fun v hv => nomatch hv
  | cons h1 _ ih => exact fun v hv => (List.mem_cons.mp hv).elim (fun e => e ▸ ⟨lf.cls _ _ h1, lf.byv _ _ h1⟩) (ih v)
/-- the tuple at a is the key k -/
abbrev TupAt (knd : KeyKind P w κ) (h : Heap) (k : List κ) (a : Addr) : Prop := IsTupleKey knd h k a
abbrev hsh (knd : KeyKind P w κ) (k : List κ) : Int := tupleKeyHash knd k
theorem no_class (lf : Leafy knd) {k : List κ} {b : Addr} {Q : Bool → Shared → Prop} (hk : TupAt knd s.heap k b) (h : Q false s) : wpAny (model P w) A (ofAClassStatement 8 (.ref b)) Q E s := by
  have hT := hk.typeIs
  obtain ⟨o, items, n, ho, _, hd, hi⟩ := hk
  have all := items_leafy lf hi
  unfold ofAClassStatement
  refine wpAny_bind (wpAny_typeOf hT ?_)
  dsimp only
  rw [show (("tuple" : String) == "tuple") = true by decide]
  simp only [if_true]
  refine wpAny_bind (wpAny_pure ?_)
  simp only [Bool.not_true, Bool.false_eq_true, if_false]
  refine wpAny_bind (wpAny_seqItems ho hd ?_)
  dsimp only
  refine wpAny_bind ?_
  rw [← Array.forIn_toList]
  refine wpAny_forIn_list _ (fun rest r s' => r.1 = none ∧ s' = s ∧ ∀ v ∈ rest, v ∈ items.toList) _ ?_ ?_ _ _ ⟨rfl, rfl, fun v hv => hv⟩
  · rintro v rest r s' ⟨hr, rfl, sub⟩
    rw [(all v (sub v List.mem_cons_self)).1]
    refine wpAny_bind (wpAny_pure ?_)
    simp only [Bool.false_eq_true, if_false]
    exact wpAny_pure ⟨rfl, rfl, fun u hu => sub u (List.mem_cons_of_mem _ hu)⟩
  · rintro ⟨r1, r2⟩ s' ⟨hr, rfl, _⟩
    simp only at hr
    subst hr
    exact wpAny_pure h
theorem by_value (lf : Leafy knd) {k : List κ} {b : Addr} {Q : Bool → Shared → Prop} (hk : TupAt knd s.heap k b) (h : ∀ c, Q c s) : wpAny (model P w) A (hashByValue 8 (.ref b)) Q E s := by
  have hT := hk.typeIs
  obtain ⟨o, items, n, ho, _, hd, hi⟩ := hk
  have all := items_leafy lf hi
  unfold hashByValue
  refine wpAny_bind (wpAny_specialOf hT F.slot_tuple_hash.lookup ?_)
  show wpAny _ _ (seqItems? (.ref b) >>= _) _ _ s
  refine wpAny_bind (wpAny_seqItems ho hd ?_)
  refine wpAny_bind ?_
  show wpAny _ _ (forIn items _ _) _ _ s
  rw [← Array.forIn_toList]
  refine wpAny_forIn_list _ (fun rest r s' => (r.1 = none ∨ ∃ c, r.1 = some c) ∧ s' = s ∧ ∀ v ∈ rest, v ∈ items.toList) _ ?_ ?_ _ _ ⟨.inl rfl, rfl, fun v hv => hv⟩
  · rintro v rest r s' ⟨hr, rfl, sub⟩
    obtain ⟨c, e⟩ := (all v (sub v List.mem_cons_self)).2 7
    rw [e]
    refine wpAny_bind (wpAny_pure ?_)
    cases c
    · simp only [Bool.not_false, if_true]
      exact wpAny_pure (show wpAny _ _ (pure false) Q E s' from wpAny_pure (h false))
    · simp only [Bool.not_true, Bool.false_eq_true, if_false]
      exact wpAny_pure ⟨.inl rfl, rfl, fun u hu => sub u (List.mem_cons_of_mem _ hu)⟩
  · rintro ⟨r1, r2⟩ s' ⟨hr, rfl, _⟩
    cases r1 with
    | none => exact wpAny_pure (h _)
    | some c => exact wpAny_pure (h _)
theorem not_seen (lf : Leafy knd) {k : List κ} {b : Addr} {Q : Bool → Shared → Prop} (hk : TupAt knd s.heap k b) {ys : List Value} (hy : ∀ y ∈ ys, ∃ k' c, y = Value.ref c ∧ TupAt knd s.heap k' c) (h : Q false s) :
    wpAny (model P w) A (searchCouldBeSeen (.ref b) ys) Q E s := by
  unfold searchCouldBeSeen
  refine wpAny_bind ?_
  refine wpAny_forIn_list _ (fun rest r s' => r.1 = none ∧ s' = s ∧ ∀ y ∈ rest, y ∈ ys) _ ?_ ?_ _ _ ⟨rfl, rfl, fun y hy => hy⟩
  · rintro v rest r s' ⟨hr, rfl, sub⟩
    obtain ⟨k', c, rfl, hc⟩ := hy v (sub v List.mem_cons_self)
    have sub' : ∀ y ∈ rest, y ∈ ys := fun u hu => sub u (List.mem_cons_of_mem _ hu)
    dsimp only
    by_cases hv : (b == c || (carriedByValue (.ref b) && carriedByValue (.ref c))) = true
    · exact wp_if_pos hv (wpAny_pure ⟨rfl, rfl, sub'⟩)
    · refine wp_if_neg hv (wpAny_bind (wpAny_eqIsQuiet_tuple hk ?_))
      simp only [Bool.not_true, Bool.false_eq_true, if_false]
      refine wpAny_bind (wpAny_eqIsQuiet_tuple hc ?_)
      simp only [Bool.not_true, Bool.false_eq_true, if_false]
      refine wpAny_bind (no_class lf hk ?_)
      simp only [Bool.false_eq_true, if_false]
      refine wpAny_bind (no_class lf hc ?_)
      simp only [Bool.false_eq_true, if_false]
      exact wpAny_pure ⟨rfl, rfl, sub'⟩
  · rintro ⟨r1, r2⟩ s' ⟨hr, rfl, _⟩
    simp only at hr
    subst hr
    exact wpAny_pure h
/-! ### the set as it stands -/
def entOf (knd : KeyKind P w κ) (p : Addr × List κ) : Int × Value := (hsh knd p.2, .ref p.1)
/-- at a stands a set of the keys of L, each with its tuple -/
structure Kset (knd : KeyKind P w κ) (h : Heap) (a : Addr) (L : List (Addr × List κ)) (es : Array (Int × Value)) (ep : Nat) (t : SetTable) : Prop where
  ob : ∃ o, h.get? a = some o ∧ o.ExactSet ∧ o.data = .set es ep t
  rows : es.toList = L.map (entOf knd)
  tab : TabOk t (L.map fun p => hsh knd p.2)
  nd : (L.map (·.2)).Nodup
  tup : ∀ p ∈ L, TupAt knd h p.2 p.1
  room : L.length * 5 < t.mask * 3
  few : L.length < 64
variable {a : Addr} {L : List (Addr × List κ)} {es : Array (Int × Value)} {ep : Nat} {t : SetTable}
theorem rows_size {es : Array (Int × Value)} {L : List (Addr × List κ)} (h : es.toList = L.map (entOf knd)) : es.size = L.length := by
  rw [← Array.length_toList, h, List.length_map]
theorem fits_of {t : SetTable} {n : Nat} (hd : t.dummies = #[]) (hs : t.place.size = n) (hm : n ≤ t.mask) : t.fits n = true := by
  unfold SetTable.fits SetTable.fill
  rw [hd, Bool.and_eq_true, beq_iff_eq, decide_eq_true_eq]
  exact ⟨hs, by show t.place.size + 0 ≤ t.mask; omega⟩
theorem Kset.psize (R : Kset knd s.heap a L es ep t) : t.place.size = es.size := by rw [R.tab.sz, List.length_map, rows_size R.rows]
theorem Kset.fits (R : Kset knd s.heap a L es ep t) : t.fits es.size = true := fits_of R.tab.dm R.psize (by have := R.room; rw [rows_size R.rows]; omega)
theorem Kset.ent (R : Kset knd s.heap a L es ep t) {i : Nat} {p : Addr × List κ} (h : L[i]? = some p) : es[i]? = some (entOf knd p) := by
  rw [← Array.getElem?_toList, R.rows, List.getElem?_map, h]; rfl
theorem Kset.at_ (R : Kset knd s.heap a L es ep t) {i j : Nat} (h : t.place.toList[i]? = some j) : ∃ p, L[i]? = some p := by
  have h1 := (List.getElem?_eq_some_iff.mp h).1
  rw [Array.length_toList, R.tab.sz, List.length_map] at h1
  exact ⟨L[i], List.getElem?_eq_getElem h1⟩
/-- the search, c steps on its way, no key met so far being the one sought -/
theorem seek (lf : Leafy knd) (R : Kset knd s.heap a L es ep t) (hled : w.params.followText "set-order" = true ∨ t.led = true ∨ True) {x : Addr} {k : List κ} (hx : TupAt knd s.heap k x) (hu : A.units < cLine) {K : Nat} (hKf : K < 10 * SetTable.turns t.mask)
    (hK : way t.mask (hsh knd k) K ∉ t.place.toList) (hb : ∀ c, c < K → way t.mask (hsh knd k) c ∈ t.place.toList) {Q : SetFound → Shared → Prop}
    (hin : k ∈ L.map (·.2) → Q (.there none) s) (hout : k ∉ L.map (·.2) → Q (.free (way t.mask (hsh knd k) K) false) s) :
    ∀ (f c : Nat) (stand : Option SetTable.Probe), stand.getD (t.probeStart (hsh knd k)) = nth t.mask (t.probeStart (hsh knd k)) c → c ≤ K → K < f + c →
      (∀ (c' i : Nat) p, c' < c → t.place.toList[i]? = some (way t.mask (hsh knd k) c') → L[i]? = some p → p.2 ≠ k) →
      wpAny (model P w) A (setSearchFrom a (.ref x) (hsh knd k) true f stand) Q E s := by
  have key : ∀ (n : Nat) (p : SetTable.Probe), p.dummy = none → (nth t.mask p n).dummy = none := fun n => by
    induction n with
    | zero => exact fun p h => h
    | succ n ih => exact fun p h => ih (adv t.mask p) (by unfold adv; split <;> exact h)
  obtain ⟨o, ho, hex, hd⟩ := R.ob
  intro f
  induction f with
  | zero => intro c stand _ hc hf; omega
  | succ f ih =>
    intro c stand hst hc hf hno
    rw [setSearchFrom_succ]
    refine wpAny_bind (wpAny_setState_of ho hd R.fits ?_)
    dsimp only
    have hgw : ¬ t.gaveWay = true := by unfold SetTable.gaveWay; rw [mask_odd R.tab.mok]; decide
    refine wp_if_neg hgw ?_
    try refine wpAny_bind (wpAny_pure ?_)
    have go : ∀ q, (nth t.mask (nth t.mask (t.probeStart (hsh knd k)) c) q) = nth t.mask (t.probeStart (hsh knd k)) (c + q) := fun q => (nth_add t.mask c _ q).symm
    have goj : ∀ q, (nth t.mask (nth t.mask (t.probeStart (hsh knd k)) c) q).j = way t.mask (hsh knd k) (c + q) := fun q => congrArg SetTable.Probe.j (go q)
    have hashAt : ∀ (i : Nat) p, L[i]? = some p → (es[i]?.map (·.1)).getD 0 = hsh knd p.2 := fun i p hp => by rw [R.ent hp]; rfl
    rcases go_spec t R.tab.ris R.tab.dm (fun i => (es[i]?.map (·.1)).getD 0) (hsh knd k) (10 * SetTable.turns t.mask) (K - c) (nth t.mask (t.probeStart (hsh knd k)) c) (key c _ rfl) (by omega)
      (fun q hq => by rw [goj]; exact hb (c + q) (by omega)) (by rw [goj, show c + (K - c) = K by omega]; exact hK) with ⟨q, i, hq, hi, hh, hne, hpr⟩ | ⟨hne, hpr⟩
    · rw [goj] at hi
      have hpr' : t.probe (fun i => (es[i]?.map (·.1)).getD 0) (hsh knd k) (stand.getD (t.probeStart (hsh knd k))) = some (.candidate (way t.mask (hsh knd k) (c + q)) i (nth t.mask (t.probeStart (hsh knd k)) (c + (q + 1)))) := by
        rw [hst, ← goj, ← go]; exact hpr
      rw [hpr']
      dsimp only
      obtain ⟨p, hp⟩ := R.at_ hi
      have hpm := List.mem_of_getElem? hp
      have hsl : t.slot (way t.mask (hsh knd k) (c + q)) = .live i := slot_live R.tab.ris hi
      have rest : wpAny (model P w) A (searchRest a (.ref x) (hsh knd k) true f es t (way t.mask (hsh knd k) (c + q)) i (nth t.mask (t.probeStart (hsh knd k)) (c + (q + 1)))) Q E s := by
        unfold searchRest
        rw [R.ent hp]
        unfold entOf
        dsimp only
        refine wpAny_bind (wpAny_holding (wpAny_eqBool_tuple hu (R.tup p hpm) hx ?_))
        refine wpAny_bind (wpAny_setState_of ho hd R.fits ?_)
        dsimp only
        by_cases hkk : p.2 = k
        · refine wp_if_pos (by rw [decide_eq_true hkk]; rfl) (wpAny_pure (hin (List.mem_map.mpr ⟨p, hpm, hkk⟩)))
        · refine wp_if_neg (by rw [decide_eq_false hkk]; exact fun z => nomatch z) ?_
          try refine wpAny_bind (wpAny_pure ?_)
          rw [sameMem]
          dsimp only
          simp only [if_true, hsl, R.ent hp, entOf]
          refine wpAny_bind (wpAny_isSame_ref_self (wpAny_bind (wpAny_pure ?_)))
          simp only [if_true]
          refine wp_if_neg (by rw [decide_eq_false hkk]; exact fun z => nomatch z) ?_
          refine ih (c + (q + 1)) _ rfl (by omega) (by omega) fun c' i' p' hc' hi' hp' e => ?_
          rcases Nat.lt_or_ge c' c with z | z
          · exact hno c' i' p' z hi' hp' e
          · rcases Nat.lt_or_ge c' (c + q) with y | y
            · refine hne (c' - c) i' (by omega) (by rw [goj, show c + (c' - c) = c' by omega]; exact hi') ?_
              rw [← e]; exact hashAt i' p' hp'
            · have : c' = c + q := by omega
              rw [this] at hi'
              have s0 := slot_live R.tab.ris hi'
              rw [hsl] at s0
              injection s0 with s0
              rw [← s0, hp] at hp'
              exact hkk (by rw [Option.some.inj hp']; exact e)
      by_cases hl : t.led = true
      · refine wp_if_neg (by rw [hl]; exact fun z => nomatch z) ?_
        try refine wpAny_bind (wpAny_pure ?_)
        exact rest
      · refine wp_if_pos (by rw [Bool.not_eq_true] at hl; rw [hl]; rfl) ?_
        refine wpAny_bind (not_seen lf hx (fun y hy => ?_) ?_)
        · obtain ⟨e, he, ee⟩ := List.mem_map.mp hy
          have he1 : e ∈ es ∧ e.1 = hsh knd k := by simpa using he
          have he2 : e ∈ es.toList := by simpa using he1.1
          rw [R.rows] at he2
          obtain ⟨p2, hp2, e2⟩ := List.mem_map.mp he2
          exact ⟨p2.2, p2.1, by rw [← ee, ← e2]; rfl, R.tup p2 hp2⟩
        · refine wp_if_neg (by decide) ?_
          try refine wpAny_bind (wpAny_pure ?_)
          exact rest
    · have hpr' : t.probe (fun i => (es[i]?.map (·.1)).getD 0) (hsh knd k) (stand.getD (t.probeStart (hsh knd k))) = some (.empty (way t.mask (hsh knd k) K) none) := by
        rw [hst, show way t.mask (hsh knd k) K = (nth t.mask (nth t.mask (t.probeStart (hsh knd k)) c) (K - c)).j by rw [goj, show c + (K - c) = K by omega]]
        exact hpr
      rw [hpr']
      dsimp only
      refine wpAny_pure (hout fun hm => ?_)
      obtain ⟨p0, h0, hk0⟩ := List.mem_map.mp hm
      obtain ⟨i0, hi0, e0⟩ := List.getElem_of_mem h0
      have h00 : L[i0]? = some p0 := by rw [List.getElem?_eq_getElem hi0, e0]
      have hil : i0 < t.place.toList.length := by rw [Array.length_toList, R.tab.sz, List.length_map]; exact hi0
      obtain ⟨c', hc', e⟩ := R.tab.before hK (i := i0) (h := hsh knd k) (by rw [List.getElem?_map, h00, ← hk0]; rfl) (List.getElem?_eq_getElem hil)
      have hpl : t.place.toList[i0]? = some (way t.mask (hsh knd k) c') := by rw [List.getElem?_eq_getElem hil, e]
      rcases Nat.lt_or_ge c' c with z | z
      · exact hno c' i0 p0 z hpl h00 hk0
      · refine hne (c' - c) i0 (by omega) (by rw [goj, show c + (c' - c) = c' by omega]; exact hpl) ?_
        rw [← hk0]; exact hashAt i0 p0 h00
theorem seek_at (lf : Leafy knd) (R : Kset knd s.heap a L es ep t) {x : Addr} {k : List κ} (hx : TupAt knd s.heap k x) (hu : A.units < cLine) {Q : SetFound → Shared → Prop}
    (hin : k ∈ L.map (·.2) → Q (.there none) s)
    (hout : ∀ K, k ∉ L.map (·.2) → way t.mask (hsh knd k) K ∉ t.place.toList → (∀ c, c < K → way t.mask (hsh knd k) c ∈ t.place.toList) → Q (.free (way t.mask (hsh knd k) K) false) s) :
    wpAny (model P w) A (setSearch a (.ref x) (hsh knd k) true) Q E s := by
  have hroom := R.room
  obtain ⟨K, hKf, hK, hKb⟩ := R.tab.first (by rw [List.length_map]; omega) (hsh knd k)
  have hbig : 10 * SetTable.turns t.mask ≤ 1420 := by
    unfold SetTable.turns
    rcases R.tab.mok with e | e | e <;> omega
  unfold setSearch
  exact seek lf R (.inr (.inr trivial)) hx hu hKf hK hKb hin (fun hn => hout K hn hK hKb) 100000 0 none rfl (Nat.zero_le _) (by omega) fun c' _ _ h => absurd h (Nat.not_lt_zero _)
end
end Wm

namespace Wm
open PySem L2 PySem.Spec PyProof.Rows
section
variable {κ : Type} [DecidableEq κ] {P : Program} {w : World} {knd : KeyKind P w κ} {A : Around} {E : Value → Shared → Prop} {s : Shared}
variable {a : Addr} {L : List (Addr × List κ)} {es : Array (Int × Value)} {ep : Nat} {t : SetTable}
/-! ### the table laid anew; adding -/
theorem tup_same {h h' : Heap} {k : List κ} {a b : Addr} {o : Obj} (hb : TupAt knd h k b) (ho : h.get? a = some o) (hd : o.data = .set es ep t) (hs : Heap.SameBut a h h') : TupAt knd h' k b := by
  obtain ⟨o', items, n, ho', hc, hd', hi⟩ := hb
  refine ⟨o', items, n, (hs.2 b fun e => ?_).trans ho', hc, hd', hi⟩
  rw [e, ho] at ho'
  rw [← Option.some.inj ho', hd] at hd'
  cases hd'
theorem reorder {order : Array Nat} (hr : es.toList = L.map (entOf knd)) (hp : order.toList.Perm (List.range L.length)) :
    ∃ L2 : List (Addr × List κ), (order.filterMap (es[·]?)).toList = L2.map (entOf knd) ∧ L2.Perm L ∧ (L2.map fun p => hsh knd p.2) = order.toList.map fun i => (es.map (·.1)).getD i 0 := by
  have hsz := rows_size hr
  have lt : ∀ i ∈ order.toList, i < L.length := fun i hi => List.mem_range.mp (hp.mem_iff.mp hi)
  have ent : ∀ i, i < L.length → es[i]? = some (entOf knd (L.getD i (0, []))) := fun i hi => by
    rw [← Array.getElem?_toList, hr, List.getElem?_map, List.getElem?_eq_getElem hi, List.getD_eq_getElem?_getD, List.getElem?_eq_getElem hi]; rfl
  refine ⟨order.toList.map fun i => L.getD i (0, []), ?_, ?_, ?_⟩
  · rw [Array.toList_filterMap, fm_congr (g := some ∘ fun i => entOf knd (L.getD i (0, []))) fun i hi => ent i (lt i hi), List.filterMap_eq_map, List.map_map]; rfl
  · have h1 := hp.map fun i => L.getD i ((0, []) : Addr × List κ)
    rw [show (List.range L.length).map (fun i => L.getD i ((0, []) : Addr × List κ)) = L by have := range_map_getD L ((0, []) : Addr × List κ) id; simpa using this] at h1
    exact h1
  · rw [List.map_map]
    refine List.map_congr_left fun i hi => ?_
    have hi' := lt i hi
    have e : (es.map (·.1))[i]? = some (hsh knd (L.getD i ((0, []) : Addr × List κ)).2) := by rw [Array.getElem?_map, ent i hi']; rfl
    show hsh knd (L.getD i ((0, []) : Addr × List κ)).2 = (es.map (·.1)).getD i 0
    rw [Array.getD_eq_getD_getElem?, e]; rfl
theorem relaid {o : Obj} (ho : s.heap.get? a = some o) (hex : o.ExactSet) (hd : o.data = .set es ep t) (hrows : es.toList = L.map (entOf knd)) (hsz : t.place.size = es.size) (hdm : t.dummies = #[]) (hfl : es.size ≤ t.mask)
    (nd : (L.map (·.2)).Nodup) (tup : ∀ p ∈ L, TupAt knd s.heap p.2 p.1) (few : L.length < 64) {wanted M : Nat}
    (hw : SetTable.sizeAbove wanted - 1 = M) (hM : MaskOk M) (hw2 : SetTable.sizeAbove wanted ≤ 128) (hn : L.length * 5 < M * 3) {Q : Unit → Shared → Prop}
    (hQ : ∀ h' L' es' ep' t', Heap.SameBut a s.heap h' → Kset knd h' a L' es' ep' t' → L'.Perm L → Q () { s with heap := h' }) : wpAny (model P w) A (setRelay a wanted) Q E s := by
  have hsl := rows_size hrows
  obtain ⟨t', order, e, hp, T, em, _, _, _⟩ := relaid_ok t (hs := es.map (·.1)) (wanted := wanted) hw hM (by rw [Array.size_map, hsl]; omega)
  rw [Array.size_map, hsl] at hp
  obtain ⟨L2, r1, r2, r3⟩ := reorder hrows hp
  rw [← r3] at T
  have hs2 : (order.filterMap (es[·]?)).size = es.size := by rw [rows_size r1, r2.length_eq, hsl]
  rw [setRelay_eq]
  refine wpAny_bind (wpAny_setState_of ho hd (fits_of hdm hsz hfl) ?_)
  dsimp only
  refine wp_if_neg (by rw [sizeLine_eq]; omega) ?_
  try refine wpAny_bind (wpAny_pure ?_)
  rw [e]
  dsimp only
  refine wpAny_bind (wp_if_neg (by rw [hs2]; simp) ?_)
  try refine wpAny_bind (wpAny_pure ?_)
  refine wpAny_pure ?_
  dsimp only
  have sb : Heap.SameBut a s.heap (s.heap.update a (Obj.putSet (order.filterMap (es[·]?)) t')) := Heap.SameBut.update ..
  refine wpAny_storeSet_of ho hd (hQ _ L2 _ (ep + 1) t' sb ⟨⟨_, store_at ho hd, ⟨hex.1, hex.2.1, hex.2.2⟩, rfl⟩, r1, T, (r2.map (·.2)).nodup_iff.mpr nd, fun p hp => tup_same (tup p (r2.mem_iff.mp hp)) ho hd sb, ?_, ?_⟩ r2) (by rw [hs2, hsl, sizeLine_eq]; omega)
  · rw [r2.length_eq, em]; exact hn
  · rw [r2.length_eq]; exact few
theorem put_in (lf : Leafy knd) (R : Kset knd s.heap a L es ep t) {x : Addr} {k : List κ} (hx : TupAt knd s.heap k x) (hu : A.units < cLine) (hfew : L.length + 1 < 64) {Q : Bool → Shared → Prop}
    (hQ : ∀ b h' L' es' ep' t', Heap.SameBut a s.heap h' → Kset knd h' a L' es' ep' t' → (k ∈ L.map (·.2) → L' = L) → (k ∉ L.map (·.2) → L'.Perm ((x, k) :: L)) → Q b { s with heap := h' }) :
    wpAny (model P w) A (setAddHashed a (.ref x) (hsh knd k)) Q E s := by
  obtain ⟨o, ho, hex, hd⟩ := R.ob
  have hsl := rows_size R.rows
  have hroom := R.room
  unfold setAddHashed
  refine wpAny_holding ?_
  rw [show (100000 : Nat) = 99999 + 1 from rfl, setAddHashedIn_succ]
  refine wpAny_bind (wpAny_setState_of ho hd R.fits ?_)
  dsimp only
  refine wp_if_neg (by simp [byScan, Value.scannable]) ?_
  try refine wpAny_bind (wpAny_pure ?_)
  refine wpAny_bind (seek_at lf R hx hu (fun hm => wpAny_pure (hQ false s.heap L es ep t (Heap.SameBut.refl a s.heap) R (fun _ => rfl) fun z => absurd hm z)) fun K hm hK hb => ?_)
  dsimp only
  refine wpAny_bind (wpAny_setState_of ho hd R.fits ?_)
  dsimp only
  obtain ⟨q1, q2, q3, q4, _, _, _, _, q9⟩ := R.tab.put hK hb
  generalize hpt : t.put (way t.mask (hsh knd k) K) = pt at q1 q3 q4 q9 ⊢
  obtain ⟨t1, j⟩ := pt
  dsimp only at q1 q3 q4 q9 ⊢
  subst q1
  generalize hpp : SetTable.below t.place (way t.mask (hsh knd k) K) = j at q2 q3 ⊢
  have pm : (L.take j ++ (x, k) :: L.drop j).Perm ((x, k) :: L) := by
    have h : (L.take j ++ (x, k) :: L.drop j).Perm ((x, k) :: (L.take j ++ L.drop j)) := List.perm_middle
    rwa [List.take_append_drop] at h
  have hin : (SetTable.insertAt es j (hsh knd k, Value.ref x)).toList = (L.take j ++ (x, k) :: L.drop j).map (entOf knd) := by
    rw [SetTable.toList_insertAt, R.rows, List.map_append, List.map_cons, List.map_take, List.map_drop]; rfl
  have hlen : (L.take j ++ (x, k) :: L.drop j).length = L.length + 1 := pm.length_eq
  rw [← show (L.take j ++ (x, k) :: L.drop j).map (fun p => hsh knd p.2) = (L.map fun p => hsh knd p.2).take j ++ hsh knd k :: (L.map fun p => hsh knd p.2).drop j by rw [List.map_append, List.map_cons, List.map_take, List.map_drop]] at q3
  have nd1 : ((L.take j ++ (x, k) :: L.drop j).map (·.2)).Nodup := (pm.map (·.2)).nodup_iff.mpr (List.nodup_cons.mpr ⟨hm, R.nd⟩)
  have hes : (SetTable.insertAt es j (hsh knd k, Value.ref x)).size = L.length + 1 := (rows_size hin).trans hlen
  generalize SetTable.insertAt es j (hsh knd k, Value.ref x) = es1 at hin hes ⊢
  generalize L.take j ++ (x, k) :: L.drop j = L1 at pm hlen q3 nd1 hin
  have rest : ∀ t2 : SetTable, t2.place = t1.place → t2.dummies = t1.dummies → t2.mask = t1.mask → t2.fill = t1.fill → wpAny (model P w) A (do
      storeSet a es1 t2
      if (!false && t2.tooFull) = true then setRelay a (SetTable.grown (es.size + 1))
      return true) Q E s := fun t2 p1 p2 p3 p4 => by
    have q3' : TabOk t2 (L1.map fun p => hsh knd p.2) := ⟨by rw [p1]; exact q3.ris, by rw [p2]; exact q3.dm, by rw [p1]; exact q3.sz, by rw [p3]; exact q3.mok, by rw [p1, p3]; exact q3.bd, by rw [p1, p3]; exact q3.reach⟩
    rw [← p3] at q4
    rw [← p4] at q9
    refine wpAny_bind (wpAny_storeSet_of ho hd ?_ (by rw [hes, sizeLine_eq]; omega))
    have sb : Heap.SameBut a s.heap (s.heap.update a (Obj.putSet es1 t2)) := Heap.SameBut.update ..
    have ho1 := store_at (es' := es1) (t' := t2) ho hd
    generalize s.heap.update a (Obj.putSet es1 t2) = h1 at sb ho1 ⊢
    have tup1 : ∀ p ∈ L1, TupAt knd h1 p.2 p.1 := fun p hp => (List.mem_cons.mp (pm.mem_iff.mp hp)).elim (fun e => by rw [e]; exact tup_same hx ho hd sb) fun hp => tup_same (R.tup p hp) ho hd sb
    by_cases hf : t2.tooFull = true
    · have hfull : (L.length + 1) * 5 ≥ t2.mask * 3 := by
        have h := hf
        unfold SetTable.tooFull at h
        rw [decide_eq_true_eq, q9, List.length_map] at h
        exact h
      have two : (t.mask = 7 ∧ L.length = 4) ∨ (t.mask = 31 ∧ L.length = 18) := by
        rw [q4] at hfull
        rcases R.tab.mok with e | e | e
        · left; rw [e] at hfull hroom; exact ⟨e, by omega⟩
        · right; rw [e] at hfull hroom; exact ⟨e, by omega⟩
        · exfalso; rw [e] at hfull; omega
      rw [hsl]
      have go : ∀ M, SetTable.sizeAbove (SetTable.grown (L.length + 1)) - 1 = M → MaskOk M → SetTable.sizeAbove (SetTable.grown (L.length + 1)) ≤ 128 → (L.length + 1) * 5 < M * 3 →
          wpAny (model P w) A (setRelay a (SetTable.grown (L.length + 1))) (fun _ s' => wpAny (model P w) A (pure true) Q E s') E { s with heap := h1 } := fun M g1 g2 g3 g4 =>
        relaid (s := { s with heap := h1 }) ho1 ⟨hex.1, hex.2.1, hex.2.2⟩ rfl hin (by rw [q3'.sz, List.length_map, hlen, hes]) q3'.dm (by rw [hes, q4]; rcases two with ⟨e, e2⟩ | ⟨e, e2⟩ <;> omega) nd1 tup1 (by rw [hlen]; exact hfew) g1 g2 g3 (by rw [hlen]; exact g4)
          fun h2 L2 es2 ep2 t3 sb2 R2 pm2 => wpAny_pure (hQ true h2 L2 es2 ep2 t3 (sb.trans sb2) R2 (fun z => absurd z hm) fun _ => pm2.trans pm)
      have fin : wpAny (model P w) A (setRelay a (SetTable.grown (L.length + 1))) (fun _ s' => wpAny (model P w) A (pure true) Q E s') E { s with heap := h1 } := by
        rcases two with ⟨_, e2⟩ | ⟨_, e2⟩
        · exact go 31 (by rw [e2, size_20]) (.inr (.inl rfl)) (by rw [e2, size_20]; decide) (by omega)
        · exact go 127 (by rw [e2, size_76]) (.inr (.inr rfl)) (by rw [e2, size_76]; decide) (by omega)
      first
        | exact wpAny_bind (wp_if_pos (by rw [hf]; rfl) fin)
        | exact wp_if_pos (by rw [hf]; rfl) (wpAny_bind fin)
    · have last : Q true { s with heap := h1 } := by
        refine hQ true h1 L1 es1 (ep + 1) t2 sb ⟨⟨_, ho1, ⟨hex.1, hex.2.1, hex.2.2⟩, rfl⟩, hin, q3', nd1, tup1, ?_, by rw [hlen]; exact hfew⟩ (fun z => absurd z hm) fun _ => pm
        have h := hf
        unfold SetTable.tooFull at h
        rw [decide_eq_true_eq, q9, List.length_map] at h
        rw [hlen]; omega
      first
        | exact wp_if_neg (by simp [hf]) (wpAny_pure last)
        | exact wpAny_bind (wp_if_neg (by simp [hf]) (wpAny_pure (wpAny_pure last)))
  by_cases hp1 : t1.plain = true
  · first
      | refine wpAny_bind (wp_if_pos hp1 (by_value lf hx fun c => ?_))
      | refine wp_if_pos hp1 (wpAny_bind (by_value lf hx fun c => ?_))
    cases c
    · exact rest { t1 with plain := false } rfl rfl rfl rfl
    · exact rest t1 rfl rfl rfl rfl
  · first
      | refine wpAny_bind (wp_if_neg hp1 (wpAny_pure ?_))
      | refine wp_if_neg hp1 (wpAny_bind (wpAny_pure ?_))
    exact rest t1 rfl rfl rfl rfl
end
end Wm

namespace Wm
open PySem L2 PySem.Spec PyProof.Rows
section
variable {κ : Type} [DecidableEq κ] {P : Program} {w : World} {knd : KeyKind P w κ} {A : Around} {E : Value → Shared → Prop} {s : Shared}
/-- what the first i have brought in -/
def Met (ks : List (Addr × List κ)) (i : Nat) (L : List (Addr × List κ)) : Prop := (∀ p ∈ L, p ∈ ks) ∧ (∀ k, k ∈ L.map (·.2) ↔ k ∈ (ks.take i).map (·.2)) ∧ L.length ≤ i
theorem Met.next {ks L L' : List (Addr × List κ)} {i : Nat} {p : Addr × List κ} (g : Met ks i L) (hp : ks[i]? = some p) (c1 : p.2 ∈ L.map (·.2) → L' = L) (c2 : p.2 ∉ L.map (·.2) → L'.Perm (p :: L)) : Met ks (i + 1) L' := by
  obtain ⟨g1, g2, g3⟩ := g
  have et : (ks.take (i + 1)).map (·.2) = (ks.take i).map (·.2) ++ [p.2] := by rw [List.take_succ, hp, List.map_append]; rfl
  by_cases c : p.2 ∈ L.map (·.2)
  · rw [c1 c]
    refine ⟨g1, fun k => ?_, by omega⟩
    rw [et, List.mem_append, ← g2, List.mem_singleton]
    exact ⟨.inl, fun h => h.elim id fun e => e ▸ c⟩
  · have pm := c2 c
    refine ⟨fun q hq => (List.mem_cons.mp (pm.mem_iff.mp hq)).elim (fun e => e ▸ List.mem_of_getElem? hp) (g1 q), fun k => ?_, by rw [pm.length_eq, List.length_cons]; omega⟩
    rw [et, List.mem_append, ← g2, List.mem_singleton, (pm.map (·.2)).mem_iff, List.map_cons, List.mem_cons]
    exact Or.comm
theorem tup_keep {h h' : Heap} {k : List κ} {b : Addr} (x : TupAt knd h k b) (hk : ∀ c o, h.get? c = some o → h'.get? c = some o) : TupAt knd h' k b := by
  obtain ⟨o, items, n, ho, r⟩ := x
  exact ⟨o, items, n, hk b o ho, r⟩
theorem Kset.keep {h h' : Heap} {a : Addr} {L : List (Addr × List κ)} {es : Array (Int × Value)} {ep : Nat} {t : SetTable} (R : Kset knd h a L es ep t) (ha : ∀ o, h.get? a = some o → h'.get? a = some o) (ht : ∀ p ∈ L, TupAt knd h' p.2 p.1) : Kset knd h' a L es ep t :=
  { R with ob := let ⟨o, ho, r⟩ := R.ob; ⟨o, ha o ho, r⟩, tup := ht }
theorem kset_new {h : Heap} {a : Addr} {led : Bool} (ho : h.get? a = some { cls := .type "set", dict := none, data := .set #[] 0 (.fresh 0 0 led) }) : Kset knd h a [] #[] 0 (.fresh 0 0 led) where
  ob := ⟨_, ho, ⟨rfl, rfl, rfl⟩, rfl⟩
  rows := rfl
  tab := ⟨List.Pairwise.nil, rfl, rfl, .inl rfl, fun x hx => (nomatch hx), fun i h j hi => (by simp at hi)⟩
  nd := List.nodup_nil
  tup := fun p hp => nomatch hp
  room := by show 0 * 5 < 7 * 3; decide
  few := by show 0 < 64; decide
/-- the loop that fills the set -/
theorem fill (lf : Leafy knd) {I : Addr} {fp wr : List Addr} {G : Array GenState → Array GenState → Prop} {n : Nat} {Pv : Nat → Value → Prop} {St : Nat → Shared → Prop} {R : Result → Shared → Prop}
    (W : WalksS P w A.in1 I fp wr G n Pv St) (S : Addr) (hSf : S ∉ fp) (ks : List (Addr × List κ)) (hn : n = ks.length) (hfew : ks.length < 64) (hval : ∀ i v, Pv i v → ∃ p, ks[i]? = some p ∧ v = .ref p.1)
    (h0 : Heap) (hk : ∀ p ∈ ks, TupAt knd h0 p.2 p.1) (hS0 : h0.get? S = none) (hw0 : ∀ b ∈ wr, h0.get? b = none) (hu : A.in1.units < cLine) :
    ∀ (m i : Nat) (s : Shared), n - i = m → i ≤ n → St i s → (∀ b o, h0.get? b = some o → s.heap.get? b = some o) → (∃ L es ep t, Kset knd s.heap S L es ep t ∧ Met ks i L) →
      (∀ s' L es ep t, Moved (S :: wr) G s s' → Kset knd s'.heap S L es ep t → Met ks n L → (∀ b o, h0.get? b = some o → s'.heap.get? b = some o) → R (.ok (.ret .none)) s') →
      codeAny (model P w) A (.builtin "set.update.loop" ⟨[.ref S, .ref I], []⟩) R s := by
  have hSw : S ∉ wr := fun h => hSf (W.sub _ h)
  have up : ∀ b ∈ wr, b ∈ S :: wr := fun b hb => List.mem_cons_of_mem _ hb
  have moved : ∀ {s s' : Shared}, Moved wr G s s' → (∀ b o, h0.get? b = some o → s.heap.get? b = some o) → ∀ b o, h0.get? b = some o → s'.heap.get? b = some o := fun hm hkp b o e =>
    hm.heap b o (fun hb => by rw [hw0 b hb] at e; cases e) (hkp b o e)
  intro m
  induction m with
  | zero =>
    intro i s hm hi hst hkp ⟨L, es, ep, t, hS, g⟩ hR
    obtain rfl : i = n := by omega
    refine codeAny_builtin F.entry_set_update_loop ?_
    rw [Around.under_plainId F.plain_set_update_loop _]
    show wpAny _ A.in1 (pyNext (.ref I) >>= _) _ _ s
    refine wpAny_bind (W.done s _ _ hst fun s' hm => ?_)
    show wpAny _ A.in1 (ret Value.none) _ _ s'
    have hkp' := moved hm hkp
    exact wpAny_pure (hR s' L es ep t (hm.mono up) (hS.keep (fun o e => hm.heap S o hSw e) fun p hp => tup_keep (hk p (g.1 p hp)) hkp') g hkp')
  | succ m ih =>
    intro i s hm hi hst hkp ⟨L, es, ep, t, hS, g⟩ hR
    have hlt : i < n := by omega
    refine codeAny_builtin F.entry_set_update_loop ?_
    rw [Around.under_plainId F.plain_set_update_loop _]
    show wpAny _ A.in1 (pyNext (.ref I) >>= _) _ _ s
    refine wpAny_bind (W.item i s _ _ hlt hst fun v s' hP hst' hm => ?_)
    obtain ⟨p, hp, rfl⟩ := hval i v hP
    have hkp' := moved hm hkp
    have hS' : Kset knd s'.heap S L es ep t := hS.keep (fun o e => hm.heap S o hSw e) fun q hq => tup_keep (hk q (g.1 q hq)) hkp'
    have hx : TupAt knd s'.heap p.2 p.1 := tup_keep (hk p (List.mem_of_getElem? hp)) hkp'
    have hgl := g.2.2
    show wpAny _ A.in1 (holding [Value.ref p.1] (setAdd S (.ref p.1)) >>= _) _ _ s'
    refine wpAny_bind (wpAny_holding ?_)
    unfold setAdd
    refine wpAny_holding (wpAny_bind (wpAny_pyHash_tuple hu hx ?_))
    refine put_in (s := { s' with toks := s'.toks + (p.2.length + 1) }) lf hS' hx hu (by omega) fun b h' L' es' ep' t' hsb hS2 c1 c2 => ?_
    have hkp2 : ∀ b o, h0.get? b = some o → h'.get? b = some o := fun b o e => (hsb.2 b (fun z => by rw [z, hS0] at e; cases e)).trans (hkp' b o e)
    refine wpAny_pure ⟨plainId_quiet F.plain_set_update_loop _, ih (i + 1) _ (by omega) hlt (W.frame _ s' _ _ hst' (Nat.le_add_right _ _) fun b hb o e => ?_) hkp2 ⟨L', es', ep', t', hS2, g.next hp c1 c2⟩ fun s'' L2 es2 ep2 t2 hm'' hS'' g'' hkp'' => ?_⟩
    · rw [hsb.2 b (fun h : b = S => hSf (by rw [← h]; exact hb))]; exact e
    · refine hR s'' L2 es2 ep2 t2 (Moved.trans W.gtrans ((hm.mono up).then_heap (Nat.le_add_right _ _) fun b o hb e => ?_) hm'') hS'' g'' hkp''
      rw [hsb.2 b (fun h : b = S => hb (by rw [h]; exact List.mem_cons_self))]; exact e
/-- set(xs) -/
theorem set_of (lf : Leafy knd) {l : Addr} {items : Array Value} (ks : List (Addr × List κ)) {Q : Value → Shared → Prop} (hh : A.handled = none) (hl : s.heap.IsList l items) (hit : items.toList = ks.map fun p => Value.ref p.1)
    (hk : ∀ p ∈ ks, TupAt knd s.heap p.2 p.1) (hfew : ks.length < 64) (hu : A.units + 3 < cLine)
    (h : ∀ (h' : Heap) (tk : Nat) L es ep t, Kset knd h' s.heap.objs.size L es ep t → Met ks ks.length L → (∀ b o, s.heap.get? b = some o → h'.get? b = some o) → Q (.ref s.heap.objs.size) { s with heap := h', toks := tk }) :
    wpAny (model P w) A (call (.type "set") [.ref l]) Q E s := by
  have hisz : items.size = ks.length := by rw [← Array.length_toList, hit, List.length_map]
  obtain ⟨c, tl, hmro⟩ := F.called_set.mro
  have hmade := F.called_set.made
  have hsub := F.called_set.sub
  refine wpAny_call (codeAny_of_tree ?_)
  show wpAny _ _ (callAny (.type "set") _) _ _ _
  refine wpAny_pure ⟨Code.quiet_builtin _ (by decide +kernel), codeAny_builtin F.entry_type_call ?_⟩
  rw [Around.under_plain (weight_type_call_type "set" [.ref l] []) rfl]
  have h1 := F.called_set.notType
  have h2 := F.called_set.canCreate
  have hct := F.typeCall_set_1 (.ref l)
  repeat (any_goals (first | assumption | wp_step))
  generalize hled : (!w.params.followText "set-order") = led
  refine codeAny_mono (code_set_led1 (.ref l) (E := E) (Q₁ := fun obj s₁ => obj = .ref s.heap.objs.size ∧ s₁ = { s with heap := s.heap.push { cls := .type "set", dict := none, data := .set #[] 0 (.fresh 0 0 led) } }) ⟨rfl, by rw [hled]⟩) fun r s₁ hr => ?_
  cases r with
  | error e => exact hr
  | ok fl =>
    cases fl with
    | ret obj =>
      obtain ⟨rfl, rfl⟩ := hr
      have hS : (s.heap.push { cls := .type "set", dict := none, data := .set #[] 0 (.fresh 0 0 led) }).get? s.heap.objs.size = some { cls := .type "set", dict := none, data := .set #[] 0 (.fresh 0 0 led) } := Heap.get?_push_size _ rfl
      have hT : Shared.TypeIs { s with heap := s.heap.push { cls := .type "set", dict := none, data := .set #[] 0 (.fresh 0 0 led) } } (.ref s.heap.objs.size) "set" := ⟨_, hS, rfl⟩
      have hli := F.called_set.init.lookup
      have hbi := F.called_set.init.bind (.ref s.heap.objs.size)
      repeat (any_goals (first | assumption | wp_step))
      refine codeAny_mono (codeAny_call_builtin (R := wants (fun r s₂ => r = .none ∧ ∃ h' tk L es ep t, s₂ = { s with heap := h', toks := tk } ∧ Kset knd h' s.heap.objs.size L es ep t ∧ Met ks ks.length L ∧
          (∀ b o, s.heap.get? b = some o → h'.get? b = some o)) E) F.called_set.init.plain F.entry_set_init (check_set_init_1 hT ?_)) fun r₂ s₂ hr₂ => ?_
      · obtain ⟨⟨ocls, odict, odata, oslots⟩, hol, hcl, nl, hdl⟩ := hl
        simp only at hcl hdl
        subst hcl; subst hdl
        have hol' : (s.heap.push { cls := .type "set", dict := none, data := .set #[] 0 (.fresh 0 0 led) }).get? l = some { cls := .type "list", dict := odict, data := .seq items nl, slots := oslots } := Heap.get?_push_of_some _ hol
        have hsls := F.sub_list_set
        have hslf := F.sub_list_frozenset
        have hnd : (Value.type "list" == Value.type "dict") = false := by decide
        have hl1 : (s.heap.push { cls := .type "set", dict := none, data := .set #[] 0 (.fresh 0 0 led) }).IsList l items := ⟨_, hol', rfl, nl, rfl⟩
        unfold Builtin.«set.__init__» noKeywords Builtin.Frozenset.updateFrom
        generalize hPI : pyIter = PI
        wp_walk
        subst hPI
        refine wpAny_pyIter_list hl1 ?_
        refine wpAny_bind (wpAny_runValue ?_)
        have hlS : l < s.heap.objs.size := Heap.lt_size hol
        have hh3 : A.in1.in1.in1.handled = none := by simp [hh]
        have hneI : l ≠ (s.heap.push { cls := .type "set", dict := none, data := .set #[] 0 (.fresh 0 0 led) }).objs.size := by rw [Heap.size_push]; exact Nat.ne_of_lt (Nat.lt_succ_of_lt hlS)
        have hSf : s.heap.objs.size ∉ [(s.heap.push { cls := .type "set", dict := none, data := .set #[] 0 (.fresh 0 0 led) }).objs.size, l] := by
          rw [Heap.size_push]; simp only [List.mem_cons, List.not_mem_nil, or_false, not_or]
          exact ⟨Nat.ne_of_lt (Nat.lt_succ_self _), Nat.ne_of_gt hlS⟩
        have hval : ∀ (i : Nat) (v : Value), items[i]? = some v → ∃ p, ks[i]? = some p ∧ v = .ref p.1 := fun i v hv => by
          rw [← Array.getElem?_toList, hit, List.getElem?_map] at hv
          obtain ⟨p, hp, e⟩ := Option.map_eq_some_iff.mp hv
          exact ⟨p, hp, e.symm⟩
        have out : ∀ b, s.heap.objs.size ≤ b → s.heap.get? b = none := fun b hb => by
          cases q : s.heap.get? b with
          | none => rfl
          | some o => exact absurd (Nat.lt_of_lt_of_le (Heap.lt_size q) hb) (Nat.lt_irrefl _)
        refine fill lf ((Walks.list hh3 _ l hneI items).toS) s.heap.objs.size
          hSf ks hisz hfew hval s.heap hk (out _ (Nat.le_refl _)) (fun b hb => out b (by
            rw [List.mem_singleton.mp hb, Heap.size_push]; exact Nat.le_succ _)) hu (items.size - 0) 0 _ (by omega) (Nat.zero_le _)
          ⟨⟨_, Heap.get?_push_size _ rfl, rfl, rfl⟩, (hl1.push _)⟩ (fun b o e => Heap.get?_push_of_some _ (Heap.get?_push_of_some _ e)) ?hS0 ?hR
        case hS0 =>
          refine ⟨[], #[], 0, _, kset_new (led := led) ?_, fun p hp => (nomatch hp), fun k => (by simp), Nat.le_refl _⟩
          exact Heap.get?_push_of_some _ hS
        case hR =>
          intro s' L es ep t hm hS' g' hkp
          obtain ⟨h', g2, d', tk', os'⟩ := s'
          obtain rfl : g2 = s.gens := hm.gens
          obtain rfl : d' = s.drawn := hm.drawn
          obtain rfl : os' = s.os := hm.os
          refine wpAny_pure ?_
          show wpAny _ _ (ret Value.none) _ _ _
          rw [hisz] at g'
          exact wpAny_pure ⟨rfl, h', tk', L, es, ep, t, rfl, hS', g', hkp⟩
      · cases r₂ with
        | error e => exact hr₂
        | ok fl₂ =>
          cases fl₂ with
          | ret r =>
            obtain ⟨rfl, h', tk, L, es, ep, t, rfl, hS', g', hk'⟩ := hr₂
            repeat (any_goals (first | assumption | wp_step))
            exact h _ _ _ _ _ _ hS' g' hk'
          | _ => exact hr₂.elim
    | _ => exact hr.elim
end
section
variable {X : Cx}
/-- len(set(xs)), xs a list of tuples of texts: D are its unlike rows -/
def tLenSetT (K : PySem.W.Frag) (ta : TE) : TE := fun σ H Q => ta σ H fun x H1 => ∃ (l : Addr) (ks : List (Addr × List Str)) (D : List (List Str)), x = V.ref l ∧ SqL K H1 l (ks.map fun p => V.ref p.1) ∧ (∀ p ∈ ks, SqT K H1 p.1 (p.2.map V.str)) ∧ ks.length < 64 ∧
  D.Nodup ∧ (∀ k, k ∈ D ↔ k ∈ ks.map (·.2)) ∧ Q (.int (D.length : Nat)) H1
theorem items_str {P : Program} {w : World} : ∀ {k : List Str} {us : List Value}, Vals (k.map V.str) us → ItemsAre (strKind P w) k us
  | [], _, .nil => .nil
  | n :: k, _, .cons r t => by
    obtain ⟨tk, rfl⟩ := r
    exact .cons (strKind_is P w n tk) (items_str t)
theorem refs_str : ∀ {ks : List (Addr × List Str)} {us : List Value}, Vals (ks.map fun p => V.ref p.1) us → us = ks.map fun p => Value.ref p.1
  | [], _, .nil => rfl
  | p :: ks, _, .cons r t => by
    cases r
    rw [refs_str t]; rfl
theorem pe_lenSetT {a : PySem.Expr} {ta : TE} {p p2 q pos : Pos} (hc : X.calm = true) (hu : X.A.units + 64 < cLine) (hg : Gl X "len") (hm : X.mg "len" = none) (hg2 : Gl X "set") (hm2 : X.mg "set" = none) (ha : PE X a ta)
    (na : starEach [a] X.env = (false, eval a X.env) :: starEach [] X.env := by rfl) : PE X (.Call (.Name "len" p) [.Call (.Name "set" p2) [a] [] q] [] pos) (tLenSetT X.K ta) := by
  refine ⟨fun pins s σ H Q I h => ?_⟩
  refine Call_ (ld_blt I hg hm PySem.boot_len ?_)
  refine PyProof.Rows.callWith_builtin1 (PyProof.Rows.args_cons ?_ rfl) rfl rfl
  refine Call_ (ld_blt I hg2 hm2 PyProof.Rows.boot_set ?_)
  refine PyProof.Rows.callWith_type1 (PyProof.Rows.args_cons (thn (ha.run pins s σ H _ I h) fun v s1 ⟨x, H1, I1, r1, q1⟩ => PyProof.Rows.args_nil ?_) na) na rfl
  obtain ⟨l, ks, D, rfl, hl, hk, hf, hD, hmem, q1⟩ := q1
  cases r1
  obtain ⟨its, r, pl, hz⟩ := I1.list hl
  refine set_of (P := X.prog) (w := X.w) leafy_str ks (I1.ok.hd hc) pl.isList (by simpa using refs_str r) (fun p hp => ?_) hf (by omega) fun h' tk L es ep t R g k => ?_
  · obtain ⟨its, r, ⟨o, ho, hc, n, hd⟩, _⟩ := I1.tuple (hk p hp)
    exact ⟨o, its.toArray, n, ho, hc, hd, by simpa using items_str r⟩
  refine PyProof.Rows.args_nil ?_
  have hsz := rows_size R.rows
  have hfew := R.few
  have hf2 := Kset.fits (s := { s1 with heap := h', toks := tk }) R
  have hn : L.length = D.length := by
    have pm : (L.map (·.2)).Perm D := (List.perm_ext_iff_of_nodup R.nd hD).mpr fun k => by
      rw [g.2.1, List.take_length, hmem]
    have := pm.length_eq
    rwa [List.length_map] at this
  obtain ⟨o, ho, hex, hd⟩ := R.ob
  have I2 : Inv X pins σ H1 { s1 with heap := h', toks := tk } := I1.kept fun b o e => k b o e
  refine call_len_set ho hex hd hf2 (by omega) ⟨.int (D.length : Nat), H1, I2.tok _, ⟨_, by rw [hsz, hn]⟩, q1⟩
variable {K' : PySem.W.Frag} (hK : X.K = K')
include hK
theorem we_lenSetT {a : PySem.Expr} {ta : TE} {p p2 q pos : Pos} (hc : X.calm = true) (hu : X.A.units + 64 < cLine) (hg : Gl X "len") (hm : X.mg "len" = none) (hg2 : Gl X "set") (hm2 : X.mg "set" = none) (ha : PE X a ta)
    (na : starEach [a] X.env = (false, eval a X.env) :: starEach [] X.env := by rfl) : PE X (.Call (.Name "len" p) [.Call (.Name "set" p2) [a] [] q] [] pos) (tLenSetT K' ta) := hK ▸ pe_lenSetT hc hu hg hm hg2 hm2 ha na
end
section
variable {K : PySem.W.Frag} {H : Hp} {ρ : List Sl} {M M1 : Ms} {ta : TE}
/-- a list of rows of texts -/
abbrev dR (rows : List (List Str)) : PyData := .list (rows.map fun r => .tuple (r.map PyData.str))
theorem rows_of : ∀ {rows : List (List Str)} {vs : List V}, DpAll K H vs (rows.map fun r => .tuple (r.map PyData.str)) → ∃ ks : List (Addr × List Str), vs = ks.map (fun p => V.ref p.1) ∧ ks.map (·.2) = rows ∧ ∀ p ∈ ks, SqT K H p.1 (p.2.map V.str)
  | [], _, h => by cases h; exact ⟨[], rfl, rfl, fun p hp => nomatch hp⟩
  | r :: rows, _, h => by
    cases h with
    | cons h1 h2 =>
      obtain ⟨ks, e1, e2, e3⟩ := rows_of h2
      cases h1 with
      | tup g1 g2 =>
        rename_i a ys
        have e := dp_strs g2
        subst e
        refine ⟨(a, r) :: ks, by rw [e1]; rfl, by rw [List.map_cons, e2], fun p hp => ?_⟩
        rcases List.mem_cons.mp hp with z | z
        · rw [z]; exact .inl (.inl g1)
        · exact e3 p z
theorem ev_lenSetT {rows D : List (List Str)} (ha : Ev K ta ρ M (.dat (dR rows)) M1) (hf : rows.length < 64) (hD : D.Nodup) (hm : ∀ k, k ∈ D ↔ k ∈ rows) : Ev K (tLenSetT K ta) ρ M (.dat (.int (D.length : Nat))) M1 := fun F L σ H o Q q => ha F L σ H o _ fun x H1 o1 e1 a1 x1 => by
  obtain ⟨l, xs, rfl, h1, h2⟩ := list_of x1
  obtain ⟨ks, rfl, e2, e3⟩ := rows_of h2
  refine ⟨l, ks, D, rfl, SqL.vis h1, fun p hp => SqT.vis (e3 p hp), ?_, hD, fun k => by rw [hm, e2], q _ _ o1 e1 a1 (.int _)⟩
  rw [← List.length_map (f := (·.2)), e2]; exact hf
end
end Wm

/-! `in` a list of rows; rows of texts as lists; unlike rows. -/
namespace Wm
open PySem L2 PySem.Spec PyProof.Rows
theorem units65 {k : Nat} {A : Around} (r : Room k A) : A.units + 65 < cLine := by have := r.un; omega
section
variable {X : Cx} {K' : PySem.W.Frag} (hK : X.K = K')
include hK
theorem w_inD (hu : X.A.units + 65 < cLine) : OpR X (compareOp .In) (rInD K') := hK ▸ op_inD hu
theorem w_notInD (hu : X.A.units + 65 < cLine) : OpR X (compareOp .NotIn) (rNotInD K') := hK ▸ op_notInD hu
end
section
variable {K : PySem.W.Frag} {F F' H H' H0 H1 : Hp} {L : List Addr} {σ : L2.St} {ρ ρ' : List Sl} {M M' M1 M2 M3 : Ms}
variable {te ta tb tc ti : TE} {tt : TT} {tr : TA} {s s1 s2 : Sl} {d d1 d2 : PyData} {ds es : List PyData} {D : Ends} {tu tw tv : TS} {g : TG}
theorem ev_notInD (ha : Ev K ta ρ M (.dat d) M1) (hb : Ev K tb ρ M1 (.dat (.list ds)) M2) (h1 : SeqAt.shaped d = true) (h2 : SeqAt.shaped (.list ds) = true) : Ev K (tOp (rNotInD K) ta tb) ρ M (.dat (.bool (!ds.any fun z => PyData.eqv z d))) M2 :=
  ev_op ha hb fun F L σ H x y o hx hy Q q => ⟨d, ds, Dp.lo (Dp.mono (hid_le _ _) hx) (SeqAt.canLay_of_shaped h1), Dp.lo (Dp.mono (hid_le _ _) hy) (SeqAt.canLay_of_shaped h2), h1, h2, q _ H (Same.refl H) (.bl _)⟩
theorem ev_notInM {p : Addr} (ha : Ev K ta ρ M (.dat d) M1) (hb : Ev K tb ρ M1 (.loc (.ref p)) M2) (hp : (p, MO.lst ds) ∈ M2) (h1 : SeqAt.shaped d = true) (h2 : SeqAt.shaped (.list ds) = true) : Ev K (tOp (rNotInD K) ta tb) ρ M (.dat (.bool (!ds.any fun z => PyData.eqv z d))) M2 :=
  ev_op ha hb fun F L σ H x y o hx hy Q q => by
    have ey : y = .ref p := hy
    subst ey
    exact ⟨d, ds, Dp.lo (Dp.mono (hid_le _ _) hx) (SeqAt.canLay_of_shaped h1), loc_dp o hp (by simpa [PyData.canLay0] using SeqAt.canLay_of_shaped h2), h1, h2, q _ H (Same.refl H) (.bl _)⟩
/-- rows of texts, each a list -/
abbrev dL (rows : List (List Str)) : PyData := .list (rows.map fun r => .list (r.map PyData.str))
theorem sh_dL {rows : List (List Str)} (h : ∀ r ∈ rows, ∀ w ∈ r, PyData.strOk w = true) : Sh 2 (dL rows) := sh_list (sh_map fun r hr => sh_dS (h r hr))
theorem sh_dR {rows : List (List Str)} (h : ∀ r ∈ rows, ∀ w ∈ r, PyData.strOk w = true) : Sh 2 (dR rows) := sh_list (sh_map fun r hr => sh_dTS (h r hr))
theorem any_eqv (r : List Str) : ∀ rows : List (List Str), ((rows.map fun r => PyData.list (r.map PyData.str)).any fun z => PyData.eqv z (.list (r.map PyData.str))) = decide (r ∈ rows)
  | [] => rfl
  | x :: rows => by
    rw [List.map_cons, List.any_cons, any_eqv r rows, eqv_dS, Bool.eq_iff_iff, Bool.or_eq_true, decide_eq_true_eq, decide_eq_true_eq, decide_eq_true_eq, List.mem_cons]
    exact ⟨fun h => h.elim (fun e => .inl e.symm) .inr, fun h => h.elim (fun e => .inl e.symm) .inr⟩
theorem atI_map {α : Type} {f : α → PyData} {rows : List α} {i : Int} (dflt : α) (h0 : 0 ≤ i) (h1 : i < rows.length) : atI (rows.map f) i = some (f (rows.getD i.toNat dflt)) := by
  rw [atI_pos h0 (by rw [List.length_map]; exact h1), List.getElem?_map, List.getD_eq_getElem?_getD, List.getElem?_eq_getElem (by omega)]; rfl
theorem getD_map {α : Type} (f : α → PyData) (rows : List α) (i : Nat) (dflt : α) (h : i < rows.length) : (rows.map f).getD i .none = f (rows.getD i dflt) := by
  rw [List.getD_eq_getElem?_getD, List.getElem?_map, List.getD_eq_getElem?_getD, List.getElem?_eq_getElem h]; rfl
theorem ei_down {i j : Int} (h : EvA K tr ρ M [.dat (.int i), .dat (.int j), .dat (.int (-1))] M1) (hb : -(2 ^ 62) ≤ i ∧ i < 2 ^ 62 ∧ -(2 ^ 62) ≤ j ∧ j < 2 ^ 62 := by omega) : EvI K (iRng3 tr) ρ M (i - j).toNat (fun k => .int (i - (k : Nat))) M1 :=
  (ei_rng3 h (RgC.neg hb.1 hb.2.1 hb.2.2.1 hb.2.2.2)).congr fun k _ => by congr 1; omega
end
/-- the unlike ones -/
def dd : List (List Str) → List (List Str)
  | [] => []
  | r :: l => if r ∈ dd l then dd l else r :: dd l
theorem mem_dd {r : List Str} : ∀ {l : List (List Str)}, r ∈ dd l ↔ r ∈ l
  | [] => Iff.rfl
  | x :: l => by
    have ih := mem_dd (r := r) (l := l)
    unfold dd
    split
    · rename_i h
      rw [ih, List.mem_cons]
      exact ⟨.inr, fun z => z.elim (fun e => e ▸ (mem_dd.mp h)) id⟩
    · rw [List.mem_cons, List.mem_cons, ih]
theorem nd_dd : ∀ l : List (List Str), (dd l).Nodup
  | [] => List.nodup_nil
  | x :: l => by
    unfold dd
    split
    · exact nd_dd l
    · rename_i h
      exact List.nodup_cons.mpr ⟨h, nd_dd l⟩
theorem dd_le : ∀ l : List (List Str), (dd l).length ≤ l.length
  | [] => Nat.le_refl _
  | x :: l => by
    have := dd_le l
    unfold dd
    split
    · rw [List.length_cons]; omega
    · rw [List.length_cons, List.length_cons]; omega
theorem dd_len {l D : List (List Str)} (hD : D.Nodup) (hm : ∀ r, r ∈ D ↔ r ∈ l) : D.length = (dd l).length :=
  ((List.perm_ext_iff_of_nodup hD (nd_dd l)).mpr fun r => by rw [hm, mem_dd]).length_eq
end Wm
namespace Wm
open PySem L2 PySem.Spec PyProof.Rows
theorem sorted_uniq : ∀ {a b : List Int}, a.Perm b → a.Pairwise (· ≤ ·) → b.Pairwise (· ≤ ·) → a = b
  | [], b, p, _, _ => (List.nil_perm.mp p).symm
  | x :: a, [], p, _, _ => by have := p.length_eq; simp at this
  | x :: a, y :: b, p, ha, hb => by
    have hx := List.pairwise_cons.mp ha
    have hy := List.pairwise_cons.mp hb
    have e : x = y := by
      have h1 : x ∈ y :: b := p.mem_iff.mp List.mem_cons_self
      have h2 : y ∈ x :: a := p.mem_iff.mpr List.mem_cons_self
      rcases List.mem_cons.mp h1 with z | z
      · exact z
      · rcases List.mem_cons.mp h2 with z2 | z2
        · exact z2.symm
        · have := hy.1 x z
          have := hx.1 y z2
          omega
    subst e
    rw [sorted_uniq (List.Perm.cons_inv p) hx.2 hy.2]
section
variable {X : Cx} {K' : PySem.W.Frag} (hK : X.K = K')
include hK
theorem w_sortedI : CallR X (.builtin "sorted") (rSortedI K') := hK ▸ cr_sortedI
end
section
variable {K : PySem.W.Frag} {ρ : List Sl} {M M1 : Ms} {tr : TA}
theorem evn_sortedI {ns ms : List Int} (ha : EvA K tr ρ M [.dat (.list (ns.map PyData.int))] M1) (hp : ms.Perm ns) (hs : ms.Pairwise (· ≤ ·)) : EvN K (tCB (rSortedI K) tr) ρ M (ms.map PyData.int) M1 := fun F L σ H o Q q => ha F L σ H o _ fun vs H1 o1 e1 a1 x1 => by
  obtain ⟨v, rfl, h⟩ := one_of x1
  obtain ⟨a, ys, rfl, h1, h2⟩ := list_of h
  have e := dp_ints h2
  subst e
  refine ⟨a, ns, rfl, SqL.vis h1, fun ns' p pm pw hp' => ?_⟩
  rw [sorted_uniq (pm.trans hp.symm) pw hs]
  exact q p _ _ (back_none o o1 e1 a1 hp') (o1.lay hp') e1 (a1.trans (same_new hp')) upd_same ints_dp
end
end Wm
namespace Wm
open PySem
theorem nodup_sub {α : Type} [DecidableEq α] : ∀ {a b : List α}, a.Nodup → (∀ x, x ∈ a → x ∈ b) → a.length ≤ b.length
  | [], _, _, _ => Nat.zero_le _
  | x :: a, b, nd, h => by
    have hn := List.nodup_cons.mp nd
    have hx := h x List.mem_cons_self
    have ih := nodup_sub (b := b.erase x) hn.2 fun y hy => (List.mem_erase_of_ne fun e => hn.1 (by rw [← e]; exact hy)).mpr (h y (List.mem_cons_of_mem _ hy))
    rw [List.length_erase_of_mem hx] at ih
    have := List.length_pos_of_mem hx
    rw [List.length_cons]; omega
theorem dd_same {a b : List (List Str)} (h : ∀ r, r ∈ a ↔ r ∈ b) : (dd a).length = (dd b).length := dd_len (nd_dd a) fun r => by rw [mem_dd, h]
end Wm

/-! list(range(a, b, c)); two names for a list of two; lists of rows of ints. -/
namespace Wm
open PySem L2 PySem.Spec PyProof.Rows
section
variable {X : Cx}
def tLstRg3 (ta : TA) : TE := fun σ H Q => ta σ H fun vs H1 => ∃ (i j c : Int) (n : Nat), vs = [V.int i, .int j, .int c] ∧ RgC i j c n ∧ n ≤ 2 ^ 24 ∧ ∀ q, H1 q = none → Q (.ref q) (upd H1 q (.lst ((List.range n).map fun (k : Nat) => V.int (i + (k : Int) * c))))
theorem pe_listRg3 {a b c : PySem.Expr} {ta : TA} {p p2 q pos : Pos} (hc : X.calm = true) (hg : Gl X "list") (hm : X.mg "list" = none) (hg2 : Gl X "range") (hm2 : X.mg "range" = none) (ha : PA X [a, b, c] ta)
    (na : starEach [.Call (.Name "range" p2) [a, b, c] [] q] X.env = (false, eval (.Call (.Name "range" p2) [a, b, c] [] q) X.env) :: starEach [] X.env := by rfl)
    (hs : starEach [a, b, c] X.env = (false, eval a X.env) :: starEach [b, c] X.env := by rfl) (hpl : (backTo q (starEach [b, c] X.env)).any (·.1) = false := by rfl) :
    PE X (.Call (.Name "list" p) [.Call (.Name "range" p2) [a, b, c] [] q] [] pos) (tLstRg3 ta) := by
  refine ⟨fun pins s σ H Q I h => ?_⟩
  refine Call_ (ld_blt I hg hm boot_list (PyProof.Rows.callWith_type1 (PyProof.Rows.args_cons ?_ na) na))
  refine Call_ (ld_blt I hg2 hm2 boot_range (PyProof.Rows.callWith_type1 (thn (ha.run q pins s σ H _ I h) fun us s1 ⟨vs, H1, I1, r1, q1⟩ => ?_) hs hpl))
  obtain ⟨i, j, k, n, e, ⟨c0, c1, c2, c3⟩, hn, q1⟩ := q1
  subst e
  cases r1 with
  | cons r rr =>
    cases rr with
    | cons r' rr =>
      cases rr with
      | cons r'' rr =>
        cases rr
        obtain ⟨t, rfl⟩ := r
        obtain ⟨t', rfl⟩ := r'
        obtain ⟨t'', rfl⟩ := r''
        refine call_range_3 c0 ?_ (.inl (PyProof.noPylong_small c1))
        refine PyProof.Rows.args_nil ?_
        have I2 : Inv X pins σ H1 { s1 with heap := s1.heap.push { cls := .type "range", data := .fields #[.int i t, .int j t', .int k t''] } } := I1.kept (t' := s1.toks) fun b o e => Heap.get?_push_of_some _ e
        refine call_list_range (n := n) (I2.ok.hd hc) (IsRange.new ..) c2 c3 hn fun h' tk acc c' hk e' hi => ?_
        refine ⟨.ref _, upd H1 _ (.lst ((List.range n).map fun (m : Nat) => V.int (i + (m : Int) * k))), I2.laid hk (Nat.le_refl _) (show ObjOk X.prog X.w _ _ _ (.lst _) from ⟨?_, acc.toList, c', ?_, ?_⟩), rfl, q1 _ (I2.hok.fresh (Nat.le_refl _))⟩
        · rw [List.length_map, List.length_range, sizeLine_eq]; omega
        · have el : acc.toList.length = n := by rw [Array.length_toList]; exact hi.1
          rw [← el]
          refine vals_of_get acc.toList _ fun m u hm => ?_
          exact hi.2 m u (by rw [← hm, Array.getElem?_toList])
        · rw [Array.toArray_toList]; exact e'
end
section
variable {K : PySem.W.Frag} {F F' H H' H0 H1 : Hp} {L : List Addr} {σ : L2.St} {ρ ρ' : List Sl} {M M' M1 M2 M3 : Ms}
variable {te ta tb tc ti : TE} {tt : TT} {tr : TA} {s s1 s2 : Sl} {d d1 d2 : PyData} {ds es : List PyData} {D : Ends} {tu tw tv : TS} {g : TG}
theorem evn_listR3 {i j c : Int} {n : Nat} (h : EvA K tr ρ M [.dat (.int i), .dat (.int j), .dat (.int c)] M1) (hr : RgC i j c n) (hn : n ≤ 100000) : EvN K (tLstRg3 tr) ρ M (((List.range n).map fun (k : Nat) => i + (k : Int) * c).map PyData.int) M1 := fun F L σ H o Q q => h F L σ H o _ fun vs H1 o1 e1 a1 x1 => by
  have e : vs = [V.int i, .int j, .int c] := by
    cases x1 with
    | cons r1 r2 =>
      cases r2 with
      | cons r2 r3 =>
        cases r3 with
        | cons r3 r4 =>
          cases r4
          rw [int_of r1, int_of r2, int_of r3]
  refine ⟨i, j, c, n, e, hr, by omega, fun p hp => q p _ _ (back_none o o1 e1 a1 hp) (o1.lay hp) e1 (a1.trans (same_new hp)) upd_same ?_⟩
  rw [show ((List.range n).map fun (k : Nat) => V.int (i + (k : Int) * c)) = ((List.range n).map fun (k : Nat) => i + (k : Int) * c).map V.int by rw [List.map_map]; rfl]
  exact ints_dp
/-- a, b = e, e a list of two data -/
theorem s_asg2L {i j : Nat} (h : Ev K te ρ M (.dat (.list [d1, d2])) M1) (k : ∀ σ H, Ok K F L σ H ((ρ.set i (.dat d1)).set j (.dat d2)) M1 → D.nx σ H) (o : Ok K F L σ H ρ M) : tAsg te (gLst K 2 (gCons (gName i) (gCons (gName j) gNil))) D σ H := h F L σ H o _ fun v H1 o1 e1 a1 x1 => by
  obtain ⟨a, xs, rfl, h1, h2⟩ := list_of x1
  refine ⟨a, xs, rfl, SqL.vis h1, h2.length, ?_⟩
  cases h2 with
  | cons g1 g2 =>
    cases g2 with
    | cons g2 g3 =>
      cases g3
      refine g_cons (g_cons (g_nil (k _ _ (Ok.set (Ok.set o1 ?_) ?_))))
      · show Dp K _ _ _; rw [e1]; exact g1
      · show Dp K _ _ _; rw [e1]; exact g2
theorem q_asg2L {i j : Nat} (h : Ev K te ρ M (.dat (.list [d1, d2])) M1) (k : ∀ σ H, Ok K F L σ H ((ρ.set i (.dat d1)).set j (.dat d2)) M1 → tv D σ H) (o : Ok K F L σ H ρ M) : tSeq (tAsg te (gLst K 2 (gCons (gName i) (gCons (gName j) gNil)))) tv D σ H := s_asg2L (D := { D with nx := tv D }) h k o
theorem rg_two : ∀ m : Nat, m < 61 → Builtin.Range.small 1 ((m : Int) + 1) 2 = true ∧ Builtin.Range.rangeSize 1 ((m : Int) + 1) 2 = (((m + 1) / 2 : Nat) : Int) := by decide +kernel
theorem rgC_two {n : Int} (h : 1 ≤ n ∧ n ≤ 60) : RgC 1 (n + 1) 2 ((n.toNat + 1) / 2) := by
  have := rg_two n.toNat (by omega)
  rw [show ((n.toNat : Nat) : Int) = n by omega] at this
  exact ⟨by decide, by decide, this.1, this.2⟩
end
end Wm

/-! objects: instances, their fields and methods, dicts with text keys and with tuple keys, list(d.values()). -/
namespace Wm
open PySem L2 PySem.Spec PyProof.Rows
/-! ### list(d.values()) -/
def tListVals (te : TE) : TE := fun σ H Q => te σ H fun x H1 => ∃ d kvs, x = .ref d ∧ H1 d = some (.dK kvs) ∧ ∀ p, H1 p = none → Q (.ref p) (upd H1 p (.lst (kvs.map (·.2))))
section
variable {X : Cx} {e : Expr} {te : TE} {p apos cpos pos : Pos}
theorem pe_listVals (hc : X.calm = true) (he : PE X e te) (hg : Gl X "list") (hm : X.mg "list" = none) (hv : bootBuiltins "list" = some (.type "list")) (hbase : attributeBase e "values" X.env (eval e X.env) = eval e X.env := by rfl) (hline : (apos.endLine == cpos.line) = true := by rfl)
    (hs : starEach [.Call (.Attribute e "values" apos) [] [] cpos] X.env = (false, eval (.Call (.Attribute e "values" apos) [] [] cpos) X.env) :: starEach [] X.env := by rfl) :
    PE X (.Call (.Name "list" p) [.Call (.Attribute e "values" apos) [] [] cpos] [] pos) (tListVals te) := by
  refine ⟨fun pins s σ H Q I hq => ?_⟩
  refine wpAny_Call_Name_kw (ld_blt I hg hm hv ?_)
  refine PyProof.Rows.callWith_type1 ?_ hs rfl
  rw [hs]
  show wpAny _ _ (spliced ((false, eval (.Call (.Attribute e "values" apos) [] [] cpos) X.env) :: backTo pos (starEach [] X.env))) _ _ s
  refine Calls.spliced_cons ?_
  refine wpAny_Call_method (T := "dict") (id := "dict.values") hbase rfl hline F.plainAttrs_dict F.slot_dict_values F.type_dict_values (thn (he.run pins s σ H _ I hq) fun u s1 ⟨x, H1, I1, rx, d, kvs, ex, hd, q⟩ => ?_)
  subst ex
  obtain rfl : u = Value.ref d := rx
  obtain ⟨hz, hs0, vs, kv, hdo⟩ := I1.hok d _ hd
  obtain ⟨ep, hat⟩ := hdo.dictAt
  have lk : kvs.length = vs.length := Paired.length kv
  have I2 : Inv X pins σ H1 { s1 with heap := s1.heap.push { cls := .type "dict_values", data := .fields #[.ref d] } } := I1.kept (t' := s1.toks) fun b ob q => Heap.get?_push_of_some _ q
  refine ⟨hdo.typeIs, hdo.mapOf.noDict, ?_⟩
  show wpAny _ _ (callWith cpos (.builtin "dict.values") [.ref d] [] []) _ X.xe s1
  refine method_meetsIn F.slot_dict_values F.entry_dict_values rfl (PySem.evalArgs_none ⟨rfl, hdo.typeIs, F.args_dict_values_1 _, _, meets_dict_values (mixKind X.prog X.w) d hs0, ⟨vs, hdo⟩, ?_⟩)
  refine Calls.spliced_nil ?_
  refine PySem.W.kdl_call (PySem.W.kdl_values (knd := mixKind X.prog X.w) (kvs := vs) (ep := ep)) (I1.ok.hd hc) ⟨⟨_, Heap.get?_push_size _ rfl, rfl, rfl⟩, hat.push _⟩ (by rw [← lk]; exact hz) fun h' tk acc' c' hkeep hS hacc => ?_
  refine ⟨.ref _, upd H1 _ (.lst (kvs.map (·.2))), I2.laid hkeep (Nat.le_refl _) (show ObjOk X.prog X.w _ _ _ (.lst (kvs.map (·.2))) from ⟨?_, acc'.toList, c', ?_, ?_⟩), rfl, q _ (I2.hok.fresh (Nat.le_refl _))⟩
  · rw [List.length_map]; exact hz
  · have el : acc'.toList.length = acc'.size := by simp
    refine vals_of_at (by rw [List.length_map, el, hacc.1, lk]) fun j x w h1 h2 => ?_
    obtain ⟨k, hk⟩ := hacc.2 j w (by rw [← Array.getElem?_toList]; exact h2)
    obtain ⟨y, g1, g2⟩ := KV.at' kv hk
    have e2 : (kvs.map (·.2))[j]? = some y := by rw [List.getElem?_map, g1] <;> rfl
    rw [e2] at h1
    cases h1
    exact g2
  · rw [Array.toArray_toList]; exact hS
end
theorem sw_three {x y z : Str} {px py pz pt pt2 : Pos} {a b c : PySem.Expr} {kt k2 : _} {env : Env} (hk : env.scope.kind = .function) (hx : env.scope.names.lookup x = some .local) (hy : env.scope.names.lookup y = some .local) (hz : env.scope.names.lookup z = some .local) (hl : (py.line == px.line) = true) (hl2 : (pz.line == px.line) = true)
    (hne : (y == x) = false) (hne2 : (z == x) = false) (hne3 : (z == y) = false) (hs : ([a, b, c].any fun | .Starred .. => true | _ => false) = false) (h1 : [a, b, c].all (foldedForSure 8) = false) (h2 : [a, b, c].all (constantsAlone 8) = false) :
    swappedStores [.Tuple [.Name x px, .Name y py, .Name z pz] kt pt] (.Tuple [a, b, c] k2 pt2) env = pure (some [x, y, z]) := by
  have kx : env.kindOf x = some .local := hx
  have ky : env.kindOf y = some .local := hy
  have kz : env.kindOf z = some .local := hz
  have hb : env.blockKind = .function := by unfold Env.blockKind; rw [hk]; rfl
  have e1 : [PySem.Expr.Name x px, .Name y py, .Name z pz].filterMap (fun
    | .Name id pos => if env.kindOf id == some .local && pos.line == px.line then some id else none
    | _ => none) = [x, y, z] := by
    simp only [List.filterMap_cons, kx, ky, kz, beq_self_eq_true, Bool.true_and, hl, hl2, if_true, List.filterMap_nil]
  have e2 : [x, y, z].eraseDups = [x, y, z] := by
    rw [List.eraseDups_cons, List.filter_cons, List.filter_cons]
    simp [hne, hne2, hne3, List.eraseDups_cons, List.filter_cons]
  unfold swappedStores
  dsimp only
  refine (if_neg ?_).trans ((if_neg ?_).trans ((if_neg ?_).trans ((if_neg ?_).trans ((if_neg ?_).trans ?_))))
  · rw [hb]; exact fun z => nomatch z
  · rw [Bool.not_eq_true]; exact hs
  · refine (congrArg (fun l : List Str => ¬ (l.length != 3 || l.eraseDups.length != l.length) = true) e1).mpr ?_
    rw [e2]; exact fun z => nomatch z
  · rw [Bool.not_eq_true]; exact h1
  · rw [Bool.not_eq_true]; exact h2
  · exact congrArg (fun l : List Str => (pure (some l) : Sem _)) e1
/-! ### dicts as data -/
section
variable {κ : Type} [DecidableEq κ]
def valD : List (κ × PyData) → κ → Option PyData
  | [], _ => none
  | e :: r, k => if e.1 = k then some e.2 else valD r k
def putD (kvs : List (κ × PyData)) (k : κ) (d : PyData) : List (κ × PyData) :=
  match valD kvs k with
  | none => kvs ++ [(k, d)]
  | some _ => kvs.map fun e => if e.1 = k then (e.1, d) else e
theorem valD_put (k j : κ) (d : PyData) : ∀ kvs : List (κ × PyData), valD (putD kvs k d) j = if j = k then some d else valD kvs j := by
  have new : ∀ kvs : List (κ × PyData), valD kvs k = none → valD (kvs ++ [(k, d)]) j = if j = k then some d else valD kvs j := fun kvs => by
    induction kvs with
    | nil =>
      intro _
      show (if k = j then some d else none) = _
      by_cases e : j = k
      · rw [if_pos e, if_pos e.symm]
      · rw [if_neg e, if_neg (fun z => e z.symm)]; rfl
    | cons a r ih =>
      intro h
      have h2 : ¬ a.1 = k := fun z => by
        have h' : (if a.1 = k then some a.2 else valD r k) = none := h
        rw [if_pos z] at h'; cases h'
      have h3 : valD r k = none := by
        have h' : (if a.1 = k then some a.2 else valD r k) = none := h
        rwa [if_neg h2] at h'
      show (if a.1 = j then some a.2 else valD (r ++ [(k, d)]) j) = if j = k then some d else if a.1 = j then some a.2 else valD r j
      rw [ih h3]
      by_cases e : a.1 = j
      · rw [if_pos e, if_pos e, if_neg (fun z => h2 (e.trans z))]
      · rw [if_neg e, if_neg e]
  have old : ∀ kvs : List (κ × PyData), valD (kvs.map fun e => if e.1 = k then (e.1, d) else e) j = if j = k then (valD kvs k).map (fun _ => d) else valD kvs j := fun kvs => by
    induction kvs with
    | nil => show none = _; by_cases e : j = k <;> simp [e, valD]
    | cons a r ih =>
      rw [List.map_cons]
      by_cases h : a.1 = k
      · rw [if_pos h]
        show (if a.1 = j then some d else valD _ j) = _
        rw [ih]
        by_cases e : j = k
        · rw [if_pos (h.trans e.symm), if_pos e]
          show _ = Option.map (fun _ => d) (if a.1 = k then some a.2 else valD r k)
          rw [if_pos h]; rfl
        · rw [if_neg (fun z => e (z.symm.trans h)), if_neg e, if_neg e]
          show _ = if a.1 = j then some a.2 else valD r j
          rw [if_neg (fun z => e (z.symm.trans h))]
      · rw [if_neg h]
        show (if a.1 = j then some a.2 else valD _ j) = _
        rw [ih]
        by_cases e : j = k
        · subst e
          rw [if_neg h, if_pos rfl, if_pos rfl]
          show _ = Option.map (fun _ => d) (if a.1 = j then some a.2 else valD r j)
          rw [if_neg h]
        · rw [if_neg e, if_neg e]
          rfl
  intro kvs
  unfold putD
  split
  · rename_i e; exact new kvs e
  · rename_i x e
    rw [old kvs, e]; rfl
theorem putD_keys (k : κ) (d : PyData) (kvs : List (κ × PyData)) : (putD kvs k d).map (·.1) = if valD kvs k = none then kvs.map (·.1) ++ [k] else kvs.map (·.1) := by
  unfold putD
  split
  · rename_i e; rw [if_pos e, List.map_append]; rfl
  · rename_i x e
    rw [if_neg (by rw [e]; exact fun z => nomatch z), List.map_map]
    refine List.map_congr_left fun a _ => ?_
    show (if a.1 = k then (a.1, d) else a).1 = a.1
    split <;> rfl
theorem valD_none {k : κ} : ∀ {kvs : List (κ × PyData)}, valD kvs k = none → k ∉ kvs.map (·.1)
  | [], _ => by simp
  | a :: r, h => by
    have h' : (if a.1 = k then some a.2 else valD r k) = none := h
    by_cases e : a.1 = k
    · rw [if_pos e] at h'; cases h'
    · rw [if_neg e] at h'
      rw [List.map_cons, List.mem_cons]
      rintro (z | z)
      · exact e z.symm
      · exact valD_none h' z
theorem valD_some {k : κ} {d : PyData} : ∀ {kvs : List (κ × PyData)}, valD kvs k = some d → (k, d) ∈ kvs
  | [], h => by cases h
  | a :: r, h => by
    have h' : (if a.1 = k then some a.2 else valD r k) = some d := h
    by_cases e : a.1 = k
    · rw [if_pos e] at h'
      cases h'
      rw [← e]; exact List.mem_cons_self
    · rw [if_neg e] at h'
      exact List.mem_cons_of_mem _ (valD_some h')
abbrev DD (K : PySem.W.Frag) (H : Hp) : List (κ × V) → List (κ × PyData) → Prop := Paired fun g f => g.1 = f.1 ∧ Dp K H g.2 f.2
variable {K : PySem.W.Frag} {H : Hp}
theorem DD.no {k : κ} : ∀ {gs : List (κ × V)} {fs : List (κ × PyData)}, DD K H gs fs → valD fs k = none → valV gs k = none
  | _, _, .nil, _ => rfl
  | g :: gs, f :: fs, .cons r t, h => by
    have h' : (if f.1 = k then some f.2 else valD fs k) = Option.none := h
    by_cases e : f.1 = k
    · rw [if_pos e] at h'; cases h'
    · rw [if_neg e] at h'
      rw [valV_neg (fun z => e (r.1.symm.trans z))]
      exact DD.no t h'
theorem DD.yes {k : κ} {d : PyData} : ∀ {gs : List (κ × V)} {fs : List (κ × PyData)}, DD K H gs fs → valD fs k = some d → ∃ v, valV gs k = some v ∧ Dp K H v d
  | _, _, .nil, h => by cases h
  | g :: gs, f :: fs, .cons r t, h => by
    have h' : (if f.1 = k then some f.2 else valD fs k) = Option.some d := h
    by_cases e : f.1 = k
    · rw [if_pos e] at h'
      cases h'
      exact ⟨g.2, valV_pos (r.1.trans e), r.2⟩
    · rw [if_neg e] at h'
      rw [valV_neg (fun z => e (r.1.symm.trans z))]
      exact DD.yes t h'
theorem DD.put {gs : List (κ × V)} {fs : List (κ × PyData)} (r : DD K H gs fs) (k : κ) {v : V} {d : PyData} (hv : Dp K H v d) : DD K H (putK gs k v) (putD fs k d) := by
  unfold putD
  split
  · rename_i e
    rw [putK_new v (r.no e)]
    exact paired_app r (.cons ⟨rfl, hv⟩ .nil)
  · rename_i x e
    obtain ⟨y, h1, h2⟩ := r.yes e
    unfold putK
    rw [valV_any, h1, if_pos (show (some y : Option V).isSome = true from rfl)]
    clear e h1 h2
    induction r with
    | nil => exact .nil
    | cons r t ih =>
      rw [List.map_cons, List.map_cons]
      refine .cons ?_ ih
      split
      · rename_i e; rw [if_pos (r.1.symm.trans e)]; exact ⟨r.1, hv⟩
      · rename_i e; rw [if_neg (fun z => e (r.1.trans z))]; exact r
theorem DD.vals : ∀ {gs : List (κ × V)} {fs : List (κ × PyData)}, DD K H gs fs → DpAll K H (gs.map (·.2)) (fs.map (·.2))
  | _, _, .nil => .nil
  | _, _, .cons r t => .cons r.2 (DD.vals t)
theorem DD.mono {H' : Hp} {gs : List (κ × V)} {fs : List (κ × PyData)} (s : Same H H') (r : DD K H gs fs) : DD K H' gs fs := Paired.mapP r fun _ _ q => ⟨q.1, Dp.mono s q.2⟩
theorem DD.len {gs : List (κ × V)} {fs : List (κ × PyData)} (r : DD K H gs fs) : gs.length = fs.length := paired_len r
end
def keyD : Key → PyData
  | .inl i => .int i
  | .inr x => .str x
abbrev tupK (ks : List Key) : PyData := .tuple (ks.map keyD)
section
variable {K : PySem.W.Frag} {H : Hp}
theorem keyD_of {k : Key} {v : V} (h : Dp K H v (keyD k)) : v = kV k := by
  cases k with
  | inl i => exact int_of (K := K) (H := H) h
  | inr x => exact str_of (K := K) (H := H) h
theorem keysD_of : ∀ {ks : List Key} {vs : List V}, DpAll K H vs (ks.map keyD) → vs = ks.map kV
  | [], _, h => by cases h; rfl
  | k :: ks, _, h => by
    cases h with
    | cons h1 h2 => rw [keyD_of h1, keysD_of h2]; rfl
theorem tupK_key {ks : List Key} {v : V} {X : List Addr} (h : Dp K (hid X H) v (tupK ks)) : ∃ b, v = .ref b ∧ H b = some (.tup (ks.map kV)) := by
  obtain ⟨b, xs, rfl, h1, h2⟩ := tupK_of (K := K) (H := hid X H) h
  have e := keysD_of h2
  subst e
  exact ⟨b, rfl, (hid_some h1).2⟩
end
/-! ### fields -/
def putS (f : Str) (s : Sl) : List (Str × Sl) → List (Str × Sl)
  | [] => [(f, s)]
  | (g, x) :: r => if g = f then (g, s) :: r else (g, x) :: putS f s r
abbrev FF (K : PySem.W.Frag) (H : Hp) : List (Str × V) → List (Str × Sl) → Prop := Paired fun g f => g.1 = f.1 ∧ SlOk K H g.2 f.2
section
variable {K : PySem.W.Frag} {H H' : Hp}
theorem FF.look {f : Str} {s : Sl} : ∀ {gs : List (Str × V)} {fs : List (Str × Sl)}, FF K H gs fs → fs.lookup f = some s → ∃ v, gs.lookup f = some v ∧ SlOk K H v s
  | _, _, .nil, h => by cases h
  | (g, x) :: gs, (g', y) :: fs, .cons r t, h => by
    obtain ⟨r1, r2⟩ := r
    cases r1
    rw [List.lookup_cons] at h ⊢
    cases e : f == g with
    | true => rw [e] at h; cases h; exact ⟨x, rfl, r2⟩
    | false => rw [e] at h; exact FF.look t h
theorem FF.none {f : Str} : ∀ {gs : List (Str × V)} {fs : List (Str × Sl)}, FF K H gs fs → fs.lookup f = none → gs.lookup f = none
  | _, _, .nil, h => rfl
  | (g, x) :: gs, (g', y) :: fs, .cons r t, h => by
    obtain ⟨r1, r2⟩ := r
    cases r1
    rw [List.lookup_cons] at h ⊢
    cases e : f == g with
    | true => rw [e] at h; cases h
    | false => rw [e] at h; exact FF.none t h
theorem FF.put {f : Str} {v : V} {s : Sl} (h : SlOk K H v s) : ∀ {gs : List (Str × V)} {fs : List (Str × Sl)}, FF K H gs fs → FF K H (putF f v gs) (putS f s fs)
  | _, _, .nil => .cons ⟨rfl, h⟩ .nil
  | (g, x) :: gs, (g', y) :: fs, .cons r t => by
    obtain ⟨r1, r2⟩ := r
    cases r1
    show FF K H (if g = f then (g, v) :: gs else (g, x) :: putF f v gs) (if g = f then (g, s) :: fs else (g, y) :: putS f s fs)
    by_cases e : g = f
    · rw [if_pos e, if_pos e]; exact .cons ⟨rfl, h⟩ t
    · rw [if_neg e, if_neg e]; exact .cons ⟨rfl, r2⟩ (FF.put h t)
theorem FF.mono (s : Same H H') {gs : List (Str × V)} {fs : List (Str × Sl)} (r : FF K H gs fs) : FF K H' gs fs := Paired.mapP r fun _ _ q => ⟨q.1, q.2.mono s⟩
end
section
variable {K : PySem.W.Frag} {F F' H H' H0 H1 : Hp} {L : List Addr} {σ σ' : L2.St} {ρ ρ' : List Sl} {M M' M0 M1 M2 M3 Mn : Ms}
variable {te ta tb tc ti td ty tx tv : TE} {tt : TT} {tr : TA} {s s1 s2 : Sl} {ss : List Sl} {d d1 d2 d3 : PyData} {ds es : List PyData} {D : Ends} {tu tw : TS} {g : TG} {p q : Addr} {C : Addr} {fs : List (Str × Sl)} {f m : Str}
theorem ev_fld (ha : Ev K ta ρ M (.loc (.ref p)) M1) (hp : (p, MO.ins C fs) ∈ M1) (hc : Cls K C) (hn : NoAttr K C f) (hl : fs.lookup f = some s) : Ev K (tFld K ta f) ρ M s M1 := fun F L σ H o Q q => ha F L σ H o _ fun x H1 o1 e1 a1 x1 => by
  have ex : x = .ref p := x1
  subst ex
  obtain ⟨dx, gs, h1, h2⟩ := o1.ob _ hp
  obtain ⟨v, h3, h4⟩ := FF.look h2 hl
  exact ⟨p, C, dx, gs, v, rfl, h1, hc, hn, h3, q v H1 o1 e1 a1 (by rw [← e1]; exact h4)⟩
/-! ### statements: o.f = e -/
theorem putS_ok (o : Ok K F L σ H ρ M) {j : Nat} {v : V} (hj : M[j]? = some (p, .ins C fs)) (hv : SlOk K (hid (L ++ ad M) H) v s) : ∃ dx gs, H p = some (.ins C dx gs) ∧ gs.length = fs.length ∧ Ok K F L σ (upd H p (.ins C dx (putF f v gs))) ρ (M.set j (p, .ins C (putS f s fs))) := by
  obtain ⟨dx, gs, h1, h2⟩ := o.ob _ (List.mem_of_getElem? hj)
  refine ⟨dx, gs, h1, paired_len h2, o.change hj (same_hid_upd (by simp)) ⟨dx, _, upd_same, ?_⟩ (live_upd o)⟩
  rw [hid_upd (List.mem_append_right _ (mem_ad hj))]
  exact FF.put hv h2
theorem s_fld {j : Nat} (hv : Ev K tv ρ M s M1) (ha : Ev K ta ρ M1 (.loc (.ref p)) M2) (hj : M2[j]? = some (p, .ins C fs)) (hc : Cls K C) (hn : NoAttr K C f) (hl : fs.length < 1000)
    (k : ∀ H, Ok K F L σ H ρ (M2.set j (p, .ins C (putS f s fs))) → D.nx σ H) (o : Ok K F L σ H ρ M) : sFld K ta tv f D σ H := hv F L σ H o _ fun y H1 o1 e1 a1 y1 => ha F L σ H1 o1 _ fun x H2 o2 e2 a2 x2 => by
  have ex : x = .ref p := x2
  subst ex
  obtain ⟨dx, gs, h1, h2, h3⟩ := putS_ok (f := f) (s := s) o2 hj (v := y) (by rw [e2.trans e1]; exact later e1 a2 y1)
  exact ⟨p, C, dx, gs, rfl, h1, hc, hn, by rw [h2]; exact hl, k _ h3⟩
/-- a new object's place in a field -/
theorem s_fldNew {j : Nat} {x : MO} (hv : ∀ F L σ H, Ok K F L σ H ρ M → ∀ Q : VK, (∀ q H1, F q = none → q ∉ ad M → Ok K F L σ H1 ρ (M ++ [(q, x)]) → Same (hid (ad M) H) H1 → Q (.ref q) H1) → tv σ H Q)
    (ha : ∀ q, Ev K ta ρ (M ++ [(q, x)]) (.loc (.ref p)) (M ++ [(q, x)])) (hj : M[j]? = some (p, .ins C fs)) (hc : Cls K C) (hn : NoAttr K C f) (hl : fs.length < 1000)
    (k : ∀ q H, Ok K F L σ H ρ ((M ++ [(q, x)]).set j (p, .ins C (putS f (.loc (.ref q)) fs))) → D.nx σ H) (o : Ok K F L σ H ρ M) : sFld K ta tv f D σ H := hv F L σ H o _ fun q H1 hf hm o1 a1 => ha q F L σ H1 o1 _ fun x H2 o2 e2 a2 x2 => by
  have ex : x = .ref p := x2
  subst ex
  obtain ⟨dx, gs, h1, h2, h3⟩ := putS_ok (f := f) (s := .loc (.ref q)) (v := .ref q) o2 (j := j) (p := p) (C := C) (fs := fs) (by rw [List.getElem?_append_left (List.getElem?_eq_some_iff.mp hj).1]; exact hj) rfl
  exact ⟨p, C, dx, gs, rfl, h1, hc, hn, by rw [h2]; exact hl, k q _ h3⟩
theorem new_dict (o : Ok K F L σ H ρ M) {x : HO} {y : MO} (hq : H q = none) (hy : ∀ G, MOk K G (upd H q x) q y) : F q = none ∧ q ∉ ad M ∧ Ok K F L σ (upd H q x) ρ (M ++ [(q, y)]) ∧ Same (hid (ad M) H) (upd H q x) := by
  have hm := mem_ad_of (Q := fun _ => True) o hq
  have o1 := o.lay (x := x) hq
  exact ⟨o.fr.free hq, hm, Ok.add o1.lift o1.sl o1.ob hm (o.fr.free hq) (hy _), (hid_le _ _).trans (same_new hq)⟩
theorem nw_dT : ∀ F L σ H, Ok K F L σ H ρ M → ∀ Q : VK, (∀ q H1, F q = none → q ∉ ad M → Ok K F L σ H1 ρ (M ++ [(q, .dT [])]) → Same (hid (ad M) H) H1 → Q (.ref q) H1) → tDNewT σ H Q := fun F L σ H o Q k q hq => by
  obtain ⟨h1, h2, h3, h4⟩ := new_dict (y := .dT []) (x := .dT []) o hq fun G => ⟨[], upd_same, .nil⟩
  exact k q _ h1 h2 h3 h4
theorem nw_dK : ∀ F L σ H, Ok K F L σ H ρ M → ∀ Q : VK, (∀ q H1, F q = none → q ∉ ad M → Ok K F L σ H1 ρ (M ++ [(q, .dK [])]) → Same (hid (ad M) H) H1 → Q (.ref q) H1) → tDNewK σ H Q := fun F L σ H o Q k q hq => by
  obtain ⟨h1, h2, h3, h4⟩ := new_dict (y := .dK []) (x := .dK []) o hq fun G => ⟨[], upd_same, .nil⟩
  exact k q _ h1 h2 h3 h4
theorem nw_list (h : EvN K te ρ M ds M) : ∀ F L σ H, Ok K F L σ H ρ M → ∀ Q : VK, (∀ q H1, F q = none → q ∉ ad M → Ok K F L σ H1 ρ (M ++ [(q, .lst ds)]) → Same (hid (ad M) H) H1 → Q (.ref q) H1) → te σ H Q := fun F L σ H o Q k => h F L σ H o _ fun p vs H1 hp o1 e1 a1 h1 h2 => by
  have hm : p ∉ ad M := mem_ad_of (Q := fun _ => True) o hp
  exact k p H1 (o.fr.free hp) hm (Ok.add o1.lift o1.sl o1.ob hm (o.fr.free hp) ⟨vs, h1, h2⟩) a1
/-- a name for a new object -/
theorem s_asgNw {i : Nat} {x : MO} (hv : ∀ F L σ H, Ok K F L σ H ρ M → ∀ Q : VK, (∀ q H1, F q = none → q ∉ ad M → Ok K F L σ H1 ρ (M ++ [(q, x)]) → Same (hid (ad M) H) H1 → Q (.ref q) H1) → te σ H Q)
    (k : ∀ q σ H, Ok K F L σ H (ρ.set i (.loc (.ref q))) (M ++ [(q, x)]) → D.nx σ H) (o : Ok K F L σ H ρ M) : tAsg te (gName i) D σ H := hv F L σ H o _ fun q H1 hf hm o1 a1 => k q _ _ (o1.set rfl)
/-! ### dicts -/
theorem dK_at (o : Ok K F L σ H ρ M) {kvs : List (Key × PyData)} (hp : (p, MO.dK kvs) ∈ M) : ∃ ks, H p = some (.dK ks) ∧ DD K (hid (L ++ ad M) H) ks kvs := o.ob _ hp
theorem dT_at (o : Ok K F L σ H ρ M) {kvs : List (List Key × PyData)} (hp : (p, MO.dT kvs) ∈ M) : ∃ ks, H p = some (.dT ks) ∧ DD K (hid (L ++ ad M) H) ks kvs := o.ob _ hp
/-- d.get(k, x) -/
theorem ev_dget2 {k : Key} {kvs : List (Key × PyData)} (hd : Ev K td ρ M (.loc (.ref p)) M) (hp : (p, MO.dK kvs) ∈ M) (hk : Ev K ty ρ M (.dat (keyD k)) M) (hx : Ev K tx ρ M (.dat d) M) : Ev K (tDGet2 td ty tx) ρ M (.dat ((valD kvs k).getD d)) M := fun F L σ H o Q q =>
  hd F L σ H o _ fun x H1 o1 e1 a1 x1 => by
    have ex : x = .ref p := x1
    subst ex
    obtain ⟨ks, h1, h2⟩ := dK_at o1 hp
    refine ⟨p, rfl, .inl ⟨ks, .inl h1⟩, hk F L σ H1 o1 _ fun y H2 o2 e2 a2 y2 => hx F L σ H2 o2 _ fun z H3 o3 e3 a3 z3 => ?_⟩
    obtain ⟨ks3, h5, h6⟩ := dK_at o3 hp
    have ey := keyD_of (K := K) y2
    subst ey
    refine ⟨_, .k h5, q _ H3 o3 e3 (chain2 rfl (chain2 rfl a1 a2) a3) ?_⟩
    cases e : valD kvs k with
    | none => rw [h6.no e]; exact z3
    | some d' =>
      obtain ⟨v, g1, g2⟩ := h6.yes e
      rw [g1]; exact g2
/-- d[k] = v -/
theorem s_dputK {k : Key} {kvs : List (Key × PyData)} {j : Nat} (hv : Ev K tv ρ M (.dat d) M) (hd : Ev K td ρ M (.loc (.ref p)) M) (hk : Ev K ty ρ M (.dat (keyD k)) M) (hj : M[j]? = some (p, .dK kvs)) (hz : kvs.length < 1000000)
    (k' : ∀ H, Ok K F L σ H ρ (M.set j (p, .dK (putD kvs k d))) → D.nx σ H) (o : Ok K F L σ H ρ M) : sDPut td ty tv D σ H := hv F L σ H o _ fun v H1 o1 e1 a1 v1 => hd F L σ H1 o1 _ fun x H2 o2 e2 a2 x2 => hk F L σ H2 o2 _ fun y H3 o3 e3 a3 y3 => by
  have ex : x = .ref p := x2
  subst ex
  have ey := keyD_of (K := K) y3
  subst ey
  obtain ⟨ks, h1, h2⟩ := dK_at o3 (List.mem_of_getElem? hj)
  refine ⟨p, _, rfl, .k h1 (by rw [h2.len]; exact line_lt hz), k' _ ?_⟩
  refine o3.change hj (same_hid_upd (by simp)) ⟨_, upd_same, ?_⟩ (live_upd o3)
  rw [hid_upd (List.mem_append_right _ (mem_ad hj))]
  exact h2.put k (later e2 a3 (later e1 a2 v1))
theorem s_dputT {k : List Key} {kvs : List (List Key × PyData)} {j : Nat} (hv : Ev K tv ρ M (.dat d) M) (hd : Ev K td ρ M (.loc (.ref p)) M) (hk : Ev K ty ρ M (.dat (tupK k)) M) (hj : M[j]? = some (p, .dT kvs)) (hz : kvs.length < 1000000)
    (k' : ∀ H, Ok K F L σ H ρ (M.set j (p, .dT (putD kvs k d))) → D.nx σ H) (o : Ok K F L σ H ρ M) : sDPut td ty tv D σ H := hv F L σ H o _ fun v H1 o1 e1 a1 v1 => hd F L σ H1 o1 _ fun x H2 o2 e2 a2 x2 => hk F L σ H2 o2 _ fun y H3 o3 e3 a3 y3 => by
  have ex : x = .ref p := x2
  subst ex
  obtain ⟨b, rfl, hb⟩ := tupK_key (K := K) y3
  obtain ⟨ks, h1, h2⟩ := dT_at o3 (List.mem_of_getElem? hj)
  refine ⟨p, _, rfl, .t h1 hb (by rw [h2.len]; exact line_lt hz), k' _ ?_⟩
  refine o3.change hj (same_hid_upd (by simp)) ⟨_, upd_same, ?_⟩ (live_upd o3)
  rw [hid_upd (List.mem_append_right _ (mem_ad hj))]
  exact h2.put k (later e2 a3 (later e1 a2 v1))
theorem ev_dgetT {k : List Key} {kvs : List (List Key × PyData)} (hd : Ev K td ρ M (.loc (.ref p)) M) (hk : Ev K ty ρ M (.dat (tupK k)) M) (hp : (p, MO.dT kvs) ∈ M) (hv : valD kvs k = some d) : Ev K (tDGet td ty) ρ M (.dat d) M := fun F L σ H o Q q =>
  hd F L σ H o _ fun x H1 o1 e1 a1 x1 => hk F L σ H1 o1 _ fun y H2 o2 e2 a2 y2 => by
    have ex : x = .ref p := x1
    subst ex
    obtain ⟨b, rfl, hb⟩ := tupK_key (K := K) y2
    obtain ⟨ks, h1, h2⟩ := dT_at o2 hp
    obtain ⟨v, g1, g2⟩ := h2.yes hv
    exact ⟨p, v, rfl, by rw [← g1]; exact .t h1 hb, q v H2 o2 e2 (chain2 rfl a1 a2) g2⟩
theorem et_dNotInT {k : List Key} {kvs : List (List Key × PyData)} (hk : Ev K ty ρ M (.dat (tupK k)) M) (hd : Ev K td ρ M (.loc (.ref p)) M) (hp : (p, MO.dT kvs) ∈ M) : EvT K (tB (tDNotIn ty td)) ρ M (valD kvs k).isNone M := fun F L σ H o Q q =>
  hk F L σ H o _ fun y H1 o1 e1 a1 y1 => hd F L σ H1 o1 _ fun x H2 o2 e2 a2 x2 => by
    have ex : x = .ref p := x2
    subst ex
    obtain ⟨b, rfl, hb⟩ := tupK_key (K := K) (H := H2) (later (L := L) rfl a2 y1)
    obtain ⟨ks, h1, h2⟩ := dT_at o2 hp
    refine ⟨p, _, rfl, .t h1 hb, _, rfl, ?_⟩
    have e : (!(valV ks k).isSome) = (valD kvs k).isNone := by
      cases e : valD kvs k with
      | none => rw [h2.no e]; rfl
      | some d' =>
        obtain ⟨v, g1, _⟩ := h2.yes e
        rw [g1]; rfl
    rw [e]
    exact q H2 o2 e2 (chain2 rfl a1 a2)
/-- a dict told by a word about it: opened, closed -/
theorem Ok.openP {Φ : List (List Key × PyData) → Prop} {j : Nat} (o : Ok K F L σ H ρ M) (hj : M[j]? = some (p, .dP Φ)) : ∃ kvs, Φ kvs ∧ Ok K F L σ H ρ (M.set j (p, .dT kvs)) := by
  obtain ⟨ks, kvs, h0, h1, h2⟩ := o.ob _ (List.mem_of_getElem? hj)
  exact ⟨kvs, h0, o.change hj (hid_le _ _) ⟨ks, h1, h2⟩ fun a ha _ => o.lv a ha⟩
theorem Ok.closeP {Φ : List (List Key × PyData) → Prop} {j : Nat} {kvs : List (List Key × PyData)} (o : Ok K F L σ H ρ M) (hj : M[j]? = some (p, .dT kvs)) (hp : Φ kvs) : Ok K F L σ H ρ (M.set j (p, .dP Φ)) := by
  obtain ⟨ks, h1, h2⟩ := o.ob _ (List.mem_of_getElem? hj)
  exact o.change hj (hid_le _ _) ⟨ks, kvs, hp, h1, h2⟩ fun a ha _ => o.lv a ha
theorem evn_listVals {kvs : List (Key × PyData)} (ha : Ev K te ρ M (.loc (.ref p)) M1) (hp : (p, MO.dK kvs) ∈ M1) : EvN K (tListVals te) ρ M (kvs.map (·.2)) M1 := fun F L σ H o Q q => ha F L σ H o _ fun x H1 o1 e1 a1 x1 => by
  have ex : x = .ref p := x1
  subst ex
  obtain ⟨ks, h1, h2⟩ := dK_at o1 hp
  refine ⟨p, ks, rfl, h1, fun q' hq => q q' _ _ (back_none o o1 e1 a1 hq) (o1.lay hq) e1 (a1.trans (same_new hq)) upd_same (DpAll.mono (same_lay hq) ?_)⟩
  rw [← e1]; exact h2.vals
/-! ### objects forgotten -/
theorem Ok.forget (o : Ok K F L σ H ρ (M ++ M1)) : Ok K F L σ H ρ M := by
  have ea : ad (M ++ M1) = ad M ++ ad M1 := List.map_append ..
  have sub : ∀ G : Hp, Same (hid (L ++ ad (M ++ M1)) G) (hid (L ++ ad M) G) := fun G => hid_sub fun a ha => by
    rw [ea]
    rcases List.mem_append.mp ha with z | z
    · exact List.mem_append_left _ z
    · exact List.mem_append_right _ (List.mem_append_left _ z)
  exact ⟨Paired.mapP o.sl fun _ _ q => q.mono (sub H), fun x hx => (o.ob x (List.mem_append_left _ hx)).mono (sub H) rfl, by have := o.nd; rw [ea] at this; exact (List.nodup_append.mp this).1, o.fr, fun q hq => o.fn q (by rw [ea]; exact List.mem_append_left _ hq), o.lv⟩
/-! ### calls that look at, or change, told objects -/
/-- R: the objects ahead, the arguments, the answer, the objects behind -/
def spMs (K : PySem.W.Frag) (R : Ms → List Sl → PyData → Ms → Prop) : Sp := fun vs H Q _ => ∃ L M ss r M', (∀ a ∈ L, H a ≠ none) ∧ (∀ a ∈ ad M, a ∈ L) ∧ (ad M).Nodup ∧ Paired (SlOk K (hid L H)) vs ss ∧ (∀ x ∈ M, MOk K (hid L H) H x.1 x.2) ∧ R M ss r M' ∧ ad M' = ad M ∧
  ∀ v H1, Same (hid (ad M) H) H1 → (∀ x ∈ M', MOk K (hid L H1) H1 x.1 x.2) → Dp K (hid L H1) v r → Q v H1
/-- the objects M0 of M become M0' -/
structure Sw (M0 M0' M M' : Ms) : Prop where
  sub : M0.Sublist M
  ea : Wm.ad M' = Wm.ad M
  mem : ∀ x ∈ M', x ∈ M0' ∨ (x ∈ M ∧ x.1 ∉ Wm.ad M0)
theorem Sw.same {M0 M : Ms} (h : M0.Sublist M) (nd : (Wm.ad M).Nodup) : Sw M0 M0 M M := ⟨h, rfl, fun x hx => by
  by_cases e : x.1 ∈ Wm.ad M0
  · left
    obtain ⟨y, hy, ey⟩ := List.mem_map.mp e
    have hy' := h.subset hy
    obtain ⟨i, hi⟩ := List.mem_iff_getElem?.mp hx
    obtain ⟨j, hj⟩ := List.mem_iff_getElem?.mp hy'
    have h1 : (ad M)[i]? = some x.1 := by simp only [ad, List.getElem?_map, hi, Option.map_some]
    have h2 : (ad M)[j]? = some x.1 := by simp only [ad, List.getElem?_map, hj, Option.map_some, ey]
    have e2 := (List.getElem?_inj (List.getElem?_eq_some_iff.mp h1).1 nd).mp (h1.trans h2.symm)
    subst e2
    rw [hi] at hj
    cases hj
    exact hy
  · exact .inr ⟨hx, e⟩⟩
theorem swap_ok (o : Ok K F L σ H1 ρ M1) (w : (ad M1).Nodup → Sw M0 Mn M1 M2) (s2 : Same (hid (ad M0) H1) H') (hm : ∀ x ∈ Mn, MOk K (hid (L ++ ad M1) H') H' x.1 x.2) (hn : ad Mn = ad M0) : Ok K F L σ H' ρ M2 ∧ Same (hid (ad M1) H1) H' := by
  have w := w o.nd
  have sub : ∀ a, a ∈ ad M0 → a ∈ ad M1 := fun a ha => by
    obtain ⟨y, hy, e⟩ := List.mem_map.mp ha
    exact List.mem_map.mpr ⟨y, w.sub.subset hy, e⟩
  have s3 : Same (hid (ad M1) H1) H' := fun a x e => s2 a x (hid_sub sub _ _ e)
  have vis : Same (hid (L ++ ad M1) H1) (hid (L ++ ad M1) H') := same_visL s3
  refine ⟨⟨?_, fun x hx => ?_, by rw [w.ea]; exact o.nd, fun a x e => ?_, fun a ha => o.fn a (by rw [w.ea] at ha; exact ha), fun a ha => ?_⟩, s3⟩
  · rw [w.ea]; exact Paired.mapP o.sl fun _ _ q => q.mono vis
  · rw [w.ea]
    rcases w.mem x hx with z | ⟨z, z2⟩
    · exact hm x z
    · obtain ⟨y, e⟩ := (o.ob x z).there
      exact (o.ob x z).mono vis ((s2 _ _ (hid_of z2 e)).trans e.symm)
  · refine s2 a x (hid_of (fun z => ?_) (o.fr a x e))
    rw [o.fn a (sub a z)] at e; cases e
  · by_cases e : a ∈ ad M0
    · rw [← hn] at e
      obtain ⟨y, hy, e2⟩ := List.mem_map.mp e
      obtain ⟨z, ez⟩ := (hm y hy).there
      rw [← e2, ez]; exact fun z => nomatch z
    · intro z
      cases e3 : H1 a with
      | none => exact o.lv a ha e3
      | some y => rw [s2 a y (hid_of e e3)] at z; cases z
theorem ev_callMs {R : Ms → List Sl → PyData → Ms → Prop} {E : XK} {r : PyData} (ha : EvA K tr ρ M ss M1) (M0 Mn : Ms) (hn : ad Mn = ad M0) (w : (ad M1).Nodup → Sw M0 Mn M1 M2) (hR : R M0 ss r Mn) : Ev K (tCall (spMs K R) [] E tr) ρ M (.dat r) M2 := fun F L σ H o Q q => ha F L σ H o _ fun vs H1 o1 e1 a1 x1 => by
  have w' := w o1.nd
  have sub : ∀ a, a ∈ ad M0 → a ∈ ad M1 := fun a ha => by
    obtain ⟨y, hy, e⟩ := List.mem_map.mp ha
    exact List.mem_map.mpr ⟨y, w'.sub.subset hy, e⟩
  refine ⟨L ++ ad M1, M0, ss, r, Mn, fun a ha => o1.there ha, fun a ha => List.mem_append_right _ (sub a ha), List.Nodup.sublist (w'.sub.map _) o1.nd, by rw [List.append_nil, e1]; exact x1, fun x hx => o1.ob x (w'.sub.subset hx), hR, hn, fun v H2 s2 hm hv => ?_⟩
  obtain ⟨o2, s3⟩ := swap_ok o1 w s2 hm hn
  exact q v H2 o2 (w'.ea.trans e1) (chain2 e1 a1 s3) (by rw [← e1]; exact hv)
/-- o.m(..) -/
theorem ev_methMs {R : Ms → List Sl → PyData → Ms → Prop} {E : XK} {r : PyData} (ho : Ev K ta ρ M (.loc (.ref p)) M') (hp : (p, MO.ins C fs) ∈ M') (hl : fs.lookup m = none) (ha : EvA K tr ρ M' ss M1) (M0 Mn : Ms) (hn : ad Mn = ad M0) (w : (ad M1).Nodup → Sw M0 Mn M1 M2) (hR : R M0 (.loc (.ref p) :: ss) r Mn) : Ev K (tMeth C m (spMs K R) [] E ta tr) ρ M (.dat r) M2 := fun F L σ H o Q q => ho F L σ H o _ fun x H0 o0 e0 a0 x0 => by
  have ex : x = .ref p := x0
  subst ex
  obtain ⟨dx, gs, h1, h2⟩ := o0.ob _ hp
  refine ⟨p, dx, gs, rfl, h1, FF.none h2 hl, ha F L σ H0 o0 _ fun vs H1 o1 e1 a1 x1 => ?_⟩
  have w' := w o1.nd
  have sub : ∀ a, a ∈ ad M0 → a ∈ ad M1 := fun a ha => by
    obtain ⟨y, hy, e⟩ := List.mem_map.mp ha
    exact List.mem_map.mpr ⟨y, w'.sub.subset hy, e⟩
  refine ⟨L ++ ad M1, M0, _, r, Mn, fun a ha => o1.there ha, fun a ha => List.mem_append_right _ (sub a ha), List.Nodup.sublist (w'.sub.map _) o1.nd, by rw [List.append_nil, e1]; exact .cons rfl x1, fun x hx => o1.ob x (w'.sub.subset hx), hR, hn, fun v H2 s2 hm hv => ?_⟩
  obtain ⟨o2, s3⟩ := swap_ok o1 w s2 hm hn
  exact q v H2 o2 (w'.ea.trans (e1.trans e0)) (chain2 (e1.trans e0) (chain2 e0 a0 a1) s3) (by rw [← e0, ← e1]; exact hv)
/-! ### a new instance -/
/-- __init__: the instance's fields, one more new object -/
def spI (K : PySem.W.Frag) (C : Addr) (R : List PyData → (Addr → List (Str × Sl)) → MO → Prop) : Sp := fun vs H Q _ => ∃ L p us dx ds fO qO, vs = .ref p :: us ∧ (∀ a ∈ L, H a ≠ none) ∧ p ∈ L ∧ H p = some (.ins C dx []) ∧ DpAll K (hid L H) us ds ∧ R ds fO qO ∧
  ∀ q H1, H q = none → Same (hid [p] H) H1 → MOk K (hid (q :: L) H1) H1 p (.ins C (fO q)) → MOk K (hid (q :: L) H1) H1 q qO → Q .non H1
theorem make_ok {R : List PyData → (Addr → List (Str × Sl)) → MO → Prop} {E : XK} {fO : Addr → List (Str × Sl)} {qO : MO} (ha : EvA K tr ρ M (ds.map Sl.dat) M1) (hR : R ds fO qO) (o : Ok K F L σ H ρ M) {Q : VK}
    (k : ∀ p q H1, hid (ad M) H p = none → hid (ad M) H q = none → Ok K F L σ H1 ρ (M1 ++ [(p, .ins C (fO q)), (q, qO)]) → ad M1 = ad M → Same (hid (ad M) H) H1 → Q (.ref p) H1) : tMake C (spI K C R) [] E tr σ H Q := ha F L σ H o _ fun vs H1 o1 e1 a1 x1 => fun p dx hp hdx ne => by
  have hFp : F p = none := o1.fr.free hp
  have s0 : Same H1 (upd (upd H1 dx (.own p)) p (.ins C dx [])) := fun b y e => by rw [upd_ne (ne_of_none e hp), upd_ne (ne_of_none e hdx)]; exact e
  have npx : p ∉ L ++ ad M1 := o1.fresh hp
  have vis0 : Same (hid (L ++ ad M1) H1) (hid (p :: (L ++ ad M1)) (upd (upd H1 dx (.own p)) p (.ins C dx []))) := fun b y e => by
    obtain ⟨n, e2⟩ := hid_some e
    refine hid_of (fun z => ?_) (s0 _ _ e2)
    rcases List.mem_cons.mp z with z | z
    · rw [z, hp] at e2; cases e2
    · exact n z
  refine ⟨p :: (L ++ ad M1), p, vs, dx, ds, fO, qO, by rw [List.append_nil], fun a ha => ?_, List.mem_cons_self, upd_same, ?_, hR, fun q H2 hq s2 h1 h2 => ⟨rfl, ?_⟩⟩
  · rcases List.mem_cons.mp ha with z | z
    · rw [z, upd_same]; exact fun z => nomatch z
    · intro e
      cases e3 : H1 a with
      | none => exact o1.there z e3
      | some y => rw [s0 a y e3] at e; cases e
  · refine DpAll.mono vis0 (dpAll_of ?_)
    rw [e1]; exact x1
  have hq1 : H1 q = none := s0.free hq
  have npq : q ≠ p := fun z => by rw [z, upd_same] at hq; cases hq
  have s12 : Same H1 H2 := fun b y e => s2 b y (hid_of (by
    intro z
    have e3 : b = p := by simpa using z
    rw [e3, hp] at e; cases e) (s0 b y e))
  have hFq : F q = none := o1.fr.free hq1
  have nqx : q ∉ L ++ ad M1 := o1.fresh hq1
  have per : ∀ G : Hp, Same (hid (q :: p :: (L ++ ad M1)) G) (hid (L ++ ad (M1 ++ [(p, .ins C (fO q)), (q, qO)])) G) := fun G => hid_sub fun a ha => by
    simp only [ad, List.map_append, List.map_cons, List.map_nil, List.mem_append, List.mem_cons, List.not_mem_nil, or_false] at ha ⊢
    rcases ha with z | z | z | z
    · exact .inr (.inr (.inl z))
    · exact .inr (.inr (.inr z))
    · exact .inr (.inl z)
    · exact .inl z
  have vis : Same (hid (L ++ ad M1) H1) (hid (q :: p :: (L ++ ad M1)) H2) := fun b y e => by
    obtain ⟨n, e2⟩ := hid_some e
    refine hid_of (fun z => ?_) (s12 _ _ e2)
    rcases List.mem_cons.mp z with z | z
    · rw [z, hq1] at e2; cases e2
    · rcases List.mem_cons.mp z with z | z
      · rw [z, hp] at e2; cases e2
      · exact n z
  have vis2 := fun b y e => per H2 b y (vis b y e)
  refine k p q H2 (a1.free hp) (a1.free hq1) ⟨Paired.mapP o1.sl fun _ _ r => r.mono vis2, fun x hx => ?_, ?_, o1.fr.trans s12, fun a ha => ?_, (o1.mono s12).lv⟩ e1 (a1.trans s12)
  · rcases List.mem_append.mp hx with z | z
    · obtain ⟨y, e⟩ := (o1.ob x z).there
      exact (o1.ob x z).mono vis2 ((s12 _ _ e).trans e.symm)
    · simp only [List.mem_cons, List.not_mem_nil, or_false] at z
      rcases z with z | z
      · rw [z]; exact h1.mono (per H2) rfl
      · rw [z]; exact h2.mono (per H2) rfl
  · simp only [ad, List.map_append, List.map_cons, List.map_nil]
    refine List.nodup_append.mpr ⟨o1.nd, ?_, fun a ha b hb e => ?_⟩
    · simp only [List.nodup_cons, List.mem_singleton, List.not_mem_nil, not_false_iff, List.nodup_nil, and_true]
      exact fun z => npq z.symm
    · simp only [List.mem_cons, List.not_mem_nil, or_false] at hb
      subst e
      rcases hb with z | z
      · exact npx (List.mem_append_right _ (z ▸ ha))
      · exact nqx (List.mem_append_right _ (z ▸ ha))
  · simp only [ad, List.map_append, List.map_cons, List.map_nil, List.mem_append, List.mem_cons, List.not_mem_nil, or_false] at ha
    rcases ha with z | z | z
    · exact o1.fn a z
    · rw [z]; exact hFp
    · rw [z]; exact hFq
/-- x = C(..) -/
theorem s_asgMake {i : Nat} {R : List PyData → (Addr → List (Str × Sl)) → MO → Prop} {E : XK} {fO : Addr → List (Str × Sl)} {qO : MO} (ha : EvA K tr ρ M (ds.map Sl.dat) M1) (hR : R ds fO qO)
    (k : ∀ p q σ H, Ok K F L σ H (ρ.set i (.loc (.ref p))) (M1 ++ [(p, .ins C (fO q)), (q, qO)]) → D.nx σ H) (o : Ok K F L σ H ρ M) : tAsg (tMake C (spI K C R) [] E tr) (gName i) D σ H :=
  make_ok ha hR o fun p q H1 _ _ o1 e1 a1 => k p q _ _ (o1.set rfl)
/-- C(..).m(..) -/
theorem ev_makeMeth {R : List PyData → (Addr → List (Str × Sl)) → MO → Prop} {E E' : XK} {fO : Addr → List (Str × Sl)} {qO qO' : MO} {R' : Ms → List Sl → PyData → Ms → Prop} {tr' : TA} {r : PyData} (ha : EvA K tr ρ M (ds.map Sl.dat) M) (hR : R ds fO qO) (hl : ∀ q, (fO q).lookup m = none)
    (ha' : ∀ p q, EvA K tr' ρ (M ++ [(p, .ins C (fO q)), (q, qO)]) ss (M ++ [(p, .ins C (fO q)), (q, qO)])) (hR' : ∀ p q, R' [(p, .ins C (fO q)), (q, qO)] (.loc (.ref p) :: ss) r [(p, .ins C (fO q)), (q, qO')]) :
    Ev K (tMeth C m (spMs K R') [] E (tMake C (spI K C R) [] E' tr) tr') ρ M (.dat r) M := fun F L σ H o Q q => make_ok ha hR o fun p q' H1 hFp hFq o1 e1 a1 => by
  obtain ⟨dx, gs, h1, h2⟩ := o1.ob (p, .ins C (fO q')) (List.mem_append_right _ List.mem_cons_self)
  refine ⟨p, dx, gs, rfl, h1, FF.none h2 (hl q'), ha' p q' F L σ H1 o1 _ fun vs H2 o2 e2 a2 x2 => ?_⟩
  refine ⟨L ++ ad (M ++ [(p, .ins C (fO q')), (q', qO)]), [(p, .ins C (fO q')), (q', qO)], _, r, [(p, .ins C (fO q')), (q', qO')], fun a ha => o2.there ha, fun a ha => ?_, ?_, by rw [List.append_nil]; exact .cons rfl x2, fun x hx => o2.ob x (List.mem_append_right _ hx), hR' p q', rfl, fun v H3 s3 hm hv => ?_⟩
  · refine List.mem_append_right _ ?_
    rw [show ad (M ++ [(p, .ins C (fO q')), (q', qO)]) = ad M ++ ad [(p, .ins C (fO q')), (q', qO)] from List.map_append ..]
    exact List.mem_append_right _ ha
  · have := o2.nd
    rw [show ad (M ++ [(p, .ins C (fO q')), (q', qO)]) = ad M ++ ad [(p, .ins C (fO q')), (q', qO)] from List.map_append ..] at this
    exact (List.nodup_append.mp this).2.1
  · have eM : ad (M ++ [(p, .ins C (fO q')), (q', qO)]) = ad M ++ [p, q'] := List.map_append ..
    have nd := o2.nd
    rw [eM] at nd
    have dj := (List.nodup_append.mp nd).2.2
    obtain ⟨o3, s4⟩ := swap_ok (M2 := M ++ [(p, .ins C (fO q')), (q', qO')]) o2 (fun _ => ⟨List.sublist_append_right .., by rw [eM]; exact List.map_append .., fun x hx => by
      rcases List.mem_append.mp hx with z | z
      · exact .inr ⟨List.mem_append_left _ z, fun z2 => dj x.1 (List.mem_map.mpr ⟨x, z, rfl⟩) x.1 z2 rfl⟩
      · exact .inl z⟩) s3 hm rfl
    have hv' : Dp K (hid (L ++ ad M) H3) v r := Dp.mono (hid_sub fun a ha => by
      rw [eM]
      rcases List.mem_append.mp ha with z | z
      · exact List.mem_append_left _ z
      · exact List.mem_append_right _ (List.mem_append_left _ z)) hv
    refine q v H3 o3.forget rfl (fun a y e => ?_) hv'
    have e5 := a1 a y e
    refine s4 a y (hid_of (fun z => ?_) (a2 a y (hid_of (fun z => ?_) e5)))
    all_goals
      rw [eM] at z
      obtain ⟨n, e6⟩ := hid_some e
      rcases List.mem_append.mp z with z | z
      · exact n z
      · simp only [List.mem_cons, List.not_mem_nil, or_false] at z
        rcases z with z | z
        · rw [z] at e; first | (rw [hFp] at e; cases e) | skip
        · rw [z] at e; first | (rw [hFq] at e; cases e) | skip
/-- a, b, c = x, y, z -/
theorem s_par3 {i j l : Nat} {s3 : Sl} (h : EvA K tr ρ M [s1, s2, s3] M1) (k : ∀ σ H, Ok K F L σ H (((ρ.set i s1).set j s2).set l s3) M1 → D.nx σ H) (o : Ok K F L σ H ρ M) : tPar3 i j l tr D σ H := h F L σ H o _ fun vs H1 o1 e1 a1 x1 => by
  cases x1 with
  | cons h1 x1 =>
    obtain ⟨v, w, rfl, h2, h3⟩ := two_of x1
    exact ⟨_, v, w, rfl, k _ _ (Ok.set (Ok.set (Ok.set o1 (by rw [e1]; exact h1)) (by rw [e1]; exact h2)) (by rw [e1]; exact h3))⟩
/-! ### ends -/
theorem s_retMs {r : PyData} (h : Ev K te ρ M (.dat r) M1) (hs : ∀ x ∈ Mn, x ∈ M1) (k : ∀ v H1, Same F H1 → (∀ x ∈ Mn, MOk K (hid L H1) H1 x.1 x.2) → Dp K (hid L H1) v r → D.rt v H1) (o : Ok K F L σ H ρ M) : tRet te D σ H :=
  s_ret h (fun v H1 o1 x1 => k v H1 o1.fr (fun x hx => (o1.ob x (hs x hx)).mono (hid_sub fun _ z => List.mem_append_left _ z) rfl) (Dp.mono (hid_sub fun _ z => List.mem_append_left _ z) x1)) o
theorem Ok.mobs (o : Ok K F L σ H ρ M) (hs : ∀ x ∈ Mn, x ∈ M) : ∀ x ∈ Mn, MOk K (hid L H) H x.1 x.2 := fun x hx => (o.ob x (hs x hx)).mono (hid_sub fun _ z => List.mem_append_left _ z) rfl
end
section
variable {P : Program} {w : World} {K : PySem.W.Frag} {mg : Str → Option Value} {base : Heap} {x qual : Str} {st : Stmt} {f C : Addr} {fd : FuncData} {N ps : List Str} {k : Nat}
theorem okMs {R : Ms → List Sl → PyData → Ms → Prop} (Fn : Fun K x qual st f fd) (S : FnScope N ps (defScope st)) (hl : ∀ M ss r M', R M ss r M' → ss.length = ps.length)
    (hb : ∀ cdv A outer s H E, Room k (A.deeper (envOfC qual (defScope st) s.heap.objs.size f cdv)) → ∃ t, PSs (cxOf CX0 P w K mg base N qual (defScope st) f cdv A outer s H E).nox (defBody st) t ∧
      ∀ M ss r M', R M ss r M' → ∀ (F : Hp) L σ H (D : Ends), (∀ v H', Same F H' → (∀ x ∈ M', MOk K (hid L H') H' x.1 x.2) → Dp K (hid L H') v r → D.rt v H') → (∀ σ H', Same F H' → (∀ x ∈ M', MOk K (hid L H') H' x.1 x.2) → r = .none → D.nx σ H') → (∀ a ∈ ad M, a ∈ L) → Ok K F L σ H (st0 N ss) M → t D σ H) :
    FnOk P w K mg base CX0 (k + 1) f fd ps (spMs K R) := by
  refine Fn.ok S (fun vs H Q E h => ?_) (fun cdv A outer s H vs Q E hr h => ?_)
  · obtain ⟨L, M, ss, r, M', lv, hL, nd, hp, hm, hR, _⟩ := h
    rw [paired_len hp]; exact hl _ _ _ _ hR
  · obtain ⟨L, M, ss, r, M', lv, hL, nd, hp, hm, hR, ea, q⟩ := h
    obtain ⟨t, h1, h2⟩ := hb cdv A outer s H E hr
    have sub : ∀ G : Hp, Same (hid L G) (hid (L ++ ad M) G) := fun G => hid_sub fun a ha => by
      rcases List.mem_append.mp ha with z | z
      · exact z
      · exact hL a z
    refine ⟨t, h1, h2 M ss r M' hR (hid (ad M) H) L _ H _ (fun v H' s2 g1 g2 => q v H' s2 g1 g2) (fun σ H' s2 g1 e => ?_) hL (ok_start (Paired.mapP hp fun _ _ z => z.mono (sub H)) lv (fun y hy => (hm y hy).mono (sub H) rfl) nd (hid_le _ _) fun a ha => hid_in ha)⟩
    subst e
    exact q .non H' s2 g1 .non
theorem okI {R : List PyData → (Addr → List (Str × Sl)) → MO → Prop} (Fn : Fun K x qual st f fd) (S : FnScope N ps (defScope st)) (hl : ∀ ds fO qO, R ds fO qO → ds.length + 1 = ps.length)
    (hb : ∀ cdv A outer s H E, Room k (A.deeper (envOfC qual (defScope st) s.heap.objs.size f cdv)) → ∃ t, PSs (cxOf CX0 P w K mg base N qual (defScope st) f cdv A outer s H E).nox (defBody st) t ∧
      ∀ ds fO qO, R ds fO qO → ∀ (F : Hp) L p σ H (D : Ends), (∀ q σ H', Ok K F L σ H' (st0 N (.loc (.ref p) :: ds.map Sl.dat)) [(p, .ins C (fO q)), (q, qO)] → D.nx σ H') → p ∈ L → Ok K F L σ H (st0 N (.loc (.ref p) :: ds.map Sl.dat)) [(p, .ins C [])] → t D σ H) :
    FnOk P w K mg base CX0 (k + 1) f fd ps (spI K C R) := by
  refine Fn.ok S (fun vs H Q E h => ?_) (fun cdv A outer s H vs Q E hr h => ?_)
  · obtain ⟨L, p, us, dx, ds, fO, qO, rfl, lv, hp, hm, hd, hR, _⟩ := h
    rw [List.length_cons, hd.length]; exact hl _ _ _ hR
  · obtain ⟨L, p, us, dx, ds, fO, qO, rfl, lv, hp, hm, hd, hR, q⟩ := h
    obtain ⟨t, h1, h2⟩ := hb cdv A outer s H E hr
    have sub : ∀ G : Hp, Same (hid L G) (hid (L ++ ad [(p, MO.ins C [])]) G) := fun G => hid_sub fun a ha => by
      rcases List.mem_append.mp ha with z | z
      · exact z
      · have e : a = p := by simpa [ad] using z
        rw [e]; exact hp
    refine ⟨t, h1, h2 ds fO qO hR (hid [p] H) L p _ H _ (fun q' σ H' o => ?_) hp (ok_start (.cons rfl (of_dpAll (hd.mono (sub H)))) lv (fun x hx => ?_) (by simp [ad]) (hid_le _ _) (fun a ha => ?_))⟩
    · have npq : q' ≠ p := fun z => by
        have := o.nd
        rw [z] at this
        simp [ad] at this
      have hF := o.fn q' (by simp [ad])
      rw [hid_out (by simpa using npq)] at hF
      have sb : Same (hid (L ++ ad [(p, .ins C (fO q')), (q', qO)]) H') (hid (q' :: L) H') := hid_sub fun a ha => by
        simp only [ad, List.map_cons, List.map_nil, List.mem_append, List.mem_cons, List.not_mem_nil, or_false] at ha ⊢
        rcases ha with z | z
        · exact .inr (.inr z)
        · exact .inl z
      exact q q' H' hF o.fr ((o.ob (p, _) (by simp)).mono sb rfl) ((o.ob (q', _) (by simp)).mono sb rfl)
    · have e : x = (p, .ins C []) := by simpa using hx
      subst e
      exact ⟨dx, [], hm, .nil⟩
    · exact hid_in (by simpa [ad] using ha)
end
section
variable {K : PySem.W.Frag} {F F' H H' H0 H1 : Hp} {L : List Addr} {σ σ' : L2.St} {ρ ρ' : List Sl} {M M' M0 M1 M2 M3 Mn : Ms}
variable {te ta tb tc ti td ty tx tv : TE} {tt : TT} {tr : TA} {s s1 s2 : Sl} {ss : List Sl} {d d1 d2 d3 : PyData} {ds es : List PyData} {D : Ends} {tu tw tz : TS} {g : TG} {p q : Addr} {C : Addr} {fs : List (Str × Sl)} {f m : Str}
theorem q_fld {j : Nat} (hv : Ev K tv ρ M s M) (ha : Ev K ta ρ M (.loc (.ref p)) M) (hj : M[j]? = some (p, .ins C fs)) (hc : Cls K C) (hn : NoAttr K C f) (hl : fs.length < 1000)
    (k : ∀ H, Ok K F L σ H ρ (M.set j (p, .ins C (putS f s fs))) → tz D σ H) (o : Ok K F L σ H ρ M) : tSeq (sFld K ta tv f) tz D σ H := s_fld (D := { D with nx := tz D }) hv ha hj hc hn hl k o
theorem q_asgNw {i : Nat} {x : MO} (hv : ∀ F L σ H, Ok K F L σ H ρ M → ∀ Q : VK, (∀ q H1, F q = none → q ∉ ad M → Ok K F L σ H1 ρ (M ++ [(q, x)]) → Same (hid (ad M) H) H1 → Q (.ref q) H1) → te σ H Q)
    (k : ∀ q σ H, Ok K F L σ H (ρ.set i (.loc (.ref q))) (M ++ [(q, x)]) → tz D σ H) (o : Ok K F L σ H ρ M) : tSeq (tAsg te (gName i)) tz D σ H := s_asgNw (D := { D with nx := tz D }) hv k o
theorem q_asgMake {i : Nat} {R : List PyData → (Addr → List (Str × Sl)) → MO → Prop} {E : XK} {fO : Addr → List (Str × Sl)} {qO : MO} (ha : EvA K tr ρ M (ds.map Sl.dat) M1) (hR : R ds fO qO)
    (k : ∀ p q σ H, Ok K F L σ H (ρ.set i (.loc (.ref p))) (M1 ++ [(p, .ins C (fO q)), (q, qO)]) → tz D σ H) (o : Ok K F L σ H ρ M) : tSeq (tAsg (tMake C (spI K C R) [] E tr) (gName i)) tz D σ H := s_asgMake (D := { D with nx := tz D }) ha hR k o
theorem q_dputT {k : List Key} {kvs : List (List Key × PyData)} {j : Nat} (hv : Ev K tv ρ M (.dat d) M) (hd : Ev K td ρ M (.loc (.ref p)) M) (hk : Ev K ty ρ M (.dat (tupK k)) M) (hj : M[j]? = some (p, .dT kvs)) (hz : kvs.length < 1000000)
    (k' : ∀ H, Ok K F L σ H ρ (M.set j (p, .dT (putD kvs k d))) → tz D σ H) (o : Ok K F L σ H ρ M) : tSeq (sDPut td ty tv) tz D σ H := s_dputT (D := { D with nx := tz D }) hv hd hk hj hz k' o
end
/-- what a method hands its callers, at any level -/
def HasM (P : Program) (w : World) (K : PySem.W.Frag) (mg : Str → Option Value) (base : Heap) (C : Addr) (k : Nat) (m : Str) (ps : List Str) (sp : Sp) : Prop := ∃ (f : Addr) (fd : FuncData), FnOk P w K mg base CX0 k f fd ps sp ∧ Meth K C m f ∧ Binds K fd ps []
theorem HasM.mono {P : Program} {w : World} {K : PySem.W.Frag} {mg : Str → Option Value} {base : Heap} {C : Addr} {j k : Nat} {m : Str} {ps : List Str} {sp : Sp} (h : HasM P w K mg base C j m ps sp) (e : j ≤ k) : HasM P w K mg base C k m ps sp := by
  obtain ⟨f, fd, h1, h2, h3⟩ := h
  exact ⟨f, fd, h1.mono e, h2, h3⟩
def HasI (P : Program) (w : World) (K : PySem.W.Frag) (mg : Str → Option Value) (base : Heap) (C : Addr) (k : Nat) (ps : List Str) (sp : Sp) : Prop := ∃ (f : Addr) (fd : FuncData), FnOk P w K mg base CX0 k f fd ps sp ∧ Mk K C f ∧ Binds K fd ps []
theorem Has.mono {P : Program} {w : World} {K : PySem.W.Frag} {mg : Str → Option Value} {base : Heap} {j k : Nat} {x : Str} {ps : List Str} {sp : Sp} (h : Has P w K mg base j x ps sp) (e : j ≤ k) : Has P w K mg base k x ps sp := by
  obtain ⟨f, fd, h1, h2, h3, h4⟩ := h
  exact ⟨f, fd, h1.mono e, h2, h3, h4⟩
def RawM (K : PySem.W.Frag) (C : Addr) (x qual : Str) (st : Stmt) : Prop := ∃ f fd, Fun K x qual st f fd ∧ Meth K C x f
def RawI (K : PySem.W.Frag) (C : Addr) (qual : Str) (st : Stmt) : Prop := ∃ f fd, Fun K "__init__" qual st f fd ∧ Mk K C f
end Wm

/-! min of a list of pairs of ints; a comprehension over a dict's values. -/
namespace Wm
open PySem L2 PySem.Spec PyProof.Rows
/-! ### min of data -/
def rMinD (K : PySem.W.Frag) : List V → Hp → VK → Prop := fun vs H Q => ∃ (a : Addr) (ys : List V) (d : PyData) (ds : List PyData), vs = [.ref a] ∧ SqL K H a ys ∧ L2.DpAll K H ys (d :: ds) ∧ PySem.W.AlikeAll (d :: ds) ∧ PyData.depthAll (d :: ds) ≤ 30 ∧
  ∀ j v, ys[j]? = some v → (d :: ds).getD j .none = PySem.W.minD d ds → Q v H
theorem vals_get : ∀ {xs : List V} {us : List Value} {j : Nat} {u : Value}, Vals xs us → us[j]? = some u → ∃ x, xs[j]? = some x ∧ RelV x u
  | _, _, _, _, .nil, h => by simp at h
  | _, _, 0, _, .cons r t, h => by simp at h; subst h; exact ⟨_, rfl, r⟩
  | _, _, j + 1, u, .cons r t, h => by
    obtain ⟨x, h1, h2⟩ := vals_get (j := j) (u := u) t (by simpa using h)
    exact ⟨x, by simpa using h1, h2⟩
theorem cr_minD {X : Cx} (hc : X.calm = true) (hu : X.A.units + 64 < cLine) : CallR X (.builtin "min") (rMinD X.K) := by
  intro pins s σ H vs us Q I r h
  obtain ⟨a, ys, d, ds, rfl, hs, hd, ha, hdp, q⟩ := h
  obtain ⟨its, rv, hl, _⟩ := I.list hs
  rw [Vals.ref1 r]
  obtain ⟨as, hr⟩ := Dp.readsAll I (d :: ds) ys its hd rv
  have hr' : ReadsAll s.heap its.toArray.toList (d :: ds) as := by simpa using hr
  have hn : its.toArray.size = ds.length + 1 := PySem.W.readsAll_len hr'
  refine PySem.call_min_walkH (PySem.W.iter_listW (A := X.A.in1) (I.ok.hd hc) hl.isList fun s₂ e W st hfp hw hk => ?_)
  refine ⟨_, _, _, _, _, _, _, s.heap, _, rfl, W, st, hfp, by omega, hw, hk, PySem.W.cmpIn_lt (A := X.A.in1) hr' ha (by show X.A.units + 1 + _ < _; omega), fun v s' hP m => ?_⟩
  obtain ⟨h', tk, rfl, hk'⟩ := PySem.W.moved_old e rfl m
  have e1 : its.toArray.size - 1 = ds.length := by omega
  have e2 := (PySem.W.argBest_fold PySem.W.dataLt PyData.none d ds ds.length (Nat.le_refl _)).2
  rw [List.take_length] at e2
  rw [e1] at hP
  obtain ⟨x, hx, rx⟩ := vals_get rv (j := _) (u := v) (by rw [List.getElem?_toArray] at hP; exact hP)
  exact ⟨x, H, I.kept hk', rx, q _ x hx (by unfold PySem.W.minD; exact e2)⟩
section
variable {X : Cx} {K' : PySem.W.Frag} (hK : X.K = K')
include hK
theorem w_minD (hc : X.calm = true) (hu : X.A.units + 64 < cLine) : CallR X (.builtin "min") (rMinD K') := hK ▸ cr_minD hc hu
end
/-! ### pairs of ints in order -/
abbrev prD (p : Int × Int) : PyData := .tuple [.int p.1, .int p.2]
def ltP (p q : Int × Int) : Bool := decide (p.1 < q.1) || (decide (p.1 = q.1) && decide (p.2 < q.2))
theorem dataLt_pr (p q : Int × Int) : PySem.W.dataLt (prD p) (prD q) = ltP p q := by
  rw [PySem.W.dataLt_tuple]
  have al : ∀ a b : Int, PySem.W.alike (.int a) (.int b) = true := fun a b => by simp only [PySem.W.alike]
  have ev : ∀ a b : Int, PyData.eqv (.int a) (.int b) = decide (a = b) := fun a b => by
    simp only [PyData.eqv]
    exact Bool.eq_iff_iff.mpr (by simp)
  unfold ltP
  by_cases e : p.1 = q.1
  · rw [PySem.W.dataLt_all_yes (al _ _) (by rw [ev]; exact decide_eq_true e)]
    by_cases e2 : p.2 = q.2
    · rw [PySem.W.dataLt_all_yes (al _ _) (by rw [ev]; exact decide_eq_true e2), e, e2]
      have : PyProof.Rows.lexLt PyProof.Rows.itemOrd (PySem.W.keyToksAll []) (PySem.W.keyToksAll []) = false := by rfl
      rw [this]
      simp
    · rw [PySem.W.dataLt_all_no (al _ _) (by rw [ev]; exact decide_eq_false e2), PySem.W.dataLt_int, e]
      simp
  · rw [PySem.W.dataLt_all_no (al _ _) (by rw [ev]; exact decide_eq_false e), PySem.W.dataLt_int]
    simp [e]
theorem alike_prs (ps : List (Int × Int)) : PySem.W.AlikeAll (ps.map prD) := ⟨fun x hx y hy => by
  obtain ⟨p, _, rfl⟩ := List.mem_map.mp hx
  obtain ⟨q, _, rfl⟩ := List.mem_map.mp hy
  simp [PySem.W.alike, PySem.W.alikeAll], fun x hx => by
  obtain ⟨p, _, rfl⟩ := List.mem_map.mp hx
  exact fun z => nomatch z⟩
theorem depth_prs (ps : List (Int × Int)) : PyData.depthAll (ps.map prD) ≤ 30 := by
  induction ps with
  | nil => simp [PyData.depthAll]
  | cons p ps ih =>
    rw [List.map_cons]
    simp only [PyData.depthAll, PyData.depth]
    refine Nat.max_le.mpr ⟨?_, ih⟩
    simp [PyData.depth, PyData.depthAll]
def mnP (p : Int × Int) (ps : List (Int × Int)) : Int × Int := ps.foldl (fun a y => if ltP y a = true then y else a) p
theorem minD_prs (p : Int × Int) (ps : List (Int × Int)) : PySem.W.minD (prD p) (ps.map prD) = prD (mnP p ps) := by
  unfold PySem.W.minD mnP
  induction ps generalizing p with
  | nil => rfl
  | cons q ps ih =>
    rw [List.map_cons, List.foldl_cons, List.foldl_cons, dataLt_pr]
    by_cases h : ltP q p = true
    · rw [if_pos h, if_pos h]; exact ih q
    · rw [if_neg h, if_neg h]; exact ih p
theorem mnP_spec : ∀ (ps : List (Int × Int)) (p : Int × Int), mnP p ps ∈ p :: ps ∧ ∀ q ∈ p :: ps, ltP q (mnP p ps) = false
  | [], p => ⟨List.mem_cons_self, fun q hq => by
    rw [List.mem_singleton.mp hq]
    simp [mnP, ltP]⟩
  | q :: ps, p => by
    have tr : ∀ a b c : Int × Int, ltP a b = false → ltP b c = false → ltP a c = false := fun a b c h1 h2 => by
      unfold ltP at *
      simp only [Bool.or_eq_false_iff, Bool.and_eq_false_iff, decide_eq_false_iff_not] at *
      omega
    have as : ∀ a b : Int × Int, ltP a b = true → ltP b a = false := fun a b h1 => by
      unfold ltP at *
      simp only [Bool.or_eq_false_iff, Bool.and_eq_false_iff, decide_eq_false_iff_not, Bool.or_eq_true, Bool.and_eq_true, decide_eq_true_eq] at *
      omega
    show mnP (if ltP q p = true then q else p) ps ∈ _ ∧ ∀ r ∈ _, ltP r (mnP (if ltP q p = true then q else p) ps) = false
    by_cases h : ltP q p = true
    · rw [if_pos h]
      obtain ⟨h1, h2⟩ := mnP_spec ps q
      refine ⟨List.mem_cons_of_mem _ h1, fun r hr => ?_⟩
      rcases List.mem_cons.mp hr with z | z
      · rw [z]; exact tr p q _ (as _ _ h) (h2 q List.mem_cons_self)
      · exact h2 r z
    · rw [if_neg h]
      obtain ⟨h1, h2⟩ := mnP_spec ps p
      refine ⟨?_, fun r hr => ?_⟩
      · rcases List.mem_cons.mp h1 with z | z
        · rw [z]; exact List.mem_cons_self
        · exact List.mem_cons_of_mem _ (List.mem_cons_of_mem _ z)
      · rcases List.mem_cons.mp hr with z | z
        · rw [z]; exact h2 p List.mem_cons_self
        · rcases List.mem_cons.mp z with z | z
          · rw [z]; exact tr q p _ (by simpa using h) (h2 p List.mem_cons_self)
          · exact h2 r (List.mem_cons_of_mem _ z)
theorem mnP_eq {p : Int × Int} {ps : List (Int × Int)} {r : Int × Int} (hr : r ∈ p :: ps) (h : ∀ q ∈ p :: ps, ltP q r = false) : mnP p ps = r := by
  obtain ⟨h1, h2⟩ := mnP_spec ps p
  have a := h _ h1
  have b := h2 r hr
  unfold ltP at a b
  simp only [Bool.or_eq_false_iff, Bool.and_eq_false_iff, decide_eq_false_iff_not] at a b
  exact Prod.ext (by omega) (by omega)
section
variable {K : PySem.W.Frag} {ρ : List Sl} {M M1 : Ms} {tr : TA} {p : Addr}
theorem ev_minP {ps : List (Int × Int)} {r : Int × Int} (ha : EvA K tr ρ M [.loc (.ref p)] M1) (hp : (p, MO.lst (ps.map prD)) ∈ M1) (hr : r ∈ ps) (h : ∀ q ∈ ps, ltP q r = false) : Ev K (tCB (rMinD K) tr) ρ M (.dat (prD r)) M1 := ev_cb ha fun F L σ H xs o hw Q q => by
  obtain ⟨v, rfl, hv⟩ := one_of hw
  have ex : v = .ref p := hv
  subst ex
  obtain ⟨vs, h1, h2⟩ := o.ob _ hp
  cases ps with
  | nil => cases hr
  | cons p0 ps =>
    have can : PyData.canLayAll0 ((p0 :: ps).map prD) = true := by
      clear h2 hr h hp
      generalize p0 :: ps = qs
      induction qs with
      | nil => simp [PyData.canLayAll0]
      | cons a qs ih => rw [List.map_cons]; simp only [PyData.canLayAll0, PyData.canLay0, Bool.and_eq_true]; exact ⟨by simp [PyData.canLayAll0, PyData.canLay0], ih⟩
    refine ⟨p, vs, prD p0, ps.map prD, rfl, SqL.of h1, DpAll.lo (DpAll.mono (hid_le _ _) h2) can, alike_prs (p0 :: ps), depth_prs (p0 :: ps), fun j v hj hm => q v H (Same.refl H) ?_⟩
    obtain ⟨d, hd, hdp⟩ := h2.getV hj
    have e : d = prD r := by
      rw [← List.map_cons (f := prD), List.getD_eq_getElem?_getD, hd, Option.getD_some, minD_prs, mnP_eq hr h] at hm
      exact hm
    rw [← e]; exact hdp
end
/-! ### [e for x in d.values()] -/
theorem evn_lcVals {K : PySem.W.Frag} {ρ : List Sl} {d : Addr} {kvs : List (Key × PyData)} {i : Nat} {g : TG} {te : TE} {js vs : List Nat} {up : Nat → List Sl → List Sl} (v : Nat → PyData) (hv : ρ[i]? = some (.loc (.ref d)))
    (hg : ∀ k, k < kvs.length → EvG K g ((kvs.map (·.2)).getD k .none) js (up k)) (hjs : ∀ j ∈ js, j ∈ vs) (he : ∀ k, k < kvs.length → Ev K te (up k (wp ρ vs)) [] (.dat (v k)) []) (hl : kvs.length ≤ 500000) :
    EvN K (tLockE (tLc (iVals (tVar i)) g tYes te vs)) ρ [(d, .dK kvs)] ((List.range kvs.length).map v) [(d, .dK kvs)] := fun F L σ H o Q q => by
  obtain ⟨ks, h1, h2⟩ := dK_at o List.mem_cons_self
  refine ⟨d, .dK ks, h1, trivial, fun od => ?_⟩
  have hFd : F d = none := o.fn d (by simp [ad])
  have vis : Same (hid (L ++ ad [(d, MO.dK kvs)]) H) (hid ((d :: L) ++ ad []) (upd H d (.frz od (.dK ks)))) := fun a x e => by
    obtain ⟨n, e2⟩ := hid_some e
    have nd : a ≠ d := fun z => n (List.mem_append_right _ (by rw [z]; simp [ad]))
    refine hid_of (fun z => ?_) (by rw [upd_ne nd]; exact e2)
    simp only [ad, List.map_nil, List.append_nil] at z
    rcases List.mem_cons.mp z with z | z
    · exact nd z
    · exact n (List.mem_append_left _ z)
  have o1 : Ok K F (d :: L) σ (upd H d (.frz od (.dK ks))) ρ [] := by
    refine ⟨Paired.mapP o.sl fun _ _ r => r.mono vis, (fun x hx => nomatch hx), (by simp [ad]), fun a x e => ?_, (fun a ha => by simp [ad] at ha), fun a ha => ?_⟩
    · rw [upd_ne (fun z => by rw [z, hFd] at e; cases e)]; exact o.fr a x e
    · by_cases e : a = d
      · rw [e, upd_same]; exact fun z => nomatch z
      · rw [upd_ne e]
        rcases List.mem_cons.mp ha with z | z
        · exact absurd z e
        · exact o.lv a z
  have e0 : given kvs.length (fun _ => true) v = (List.range kvs.length).map v := by
    unfold given
    rw [List.filter_eq_self.mpr (fun _ _ => rfl)]
  refine evn_lc_at (M := []) (n := kvs.length) (item := fun k => (kvs.map (·.2)).getD k .none) (fun _ => []) (fun _ => true) v o1 (fun R r => ?_) hg hjs (fun i _ F L σ H o Q q => q _ o rfl (hid_le _ _)) (fun k hk _ => he k hk) (fun _ _ e => by cases e) hl _ (fun p us H1 hp o2 _ a2 g1 g2 => ?_)
  · obtain ⟨w, hw, hw2⟩ := o1.get hv (fun z => nomatch z)
    have ew : w = .ref d := hw2
    subst ew
    refine ⟨_, hw, d, od, ks, rfl, upd_same, r _ _ o1 rfl (hid_le _ _) fun k G sG => ?_⟩
    have hGd : G d = some (.frz od (.dK ks)) := sG _ _ (hid_of (by simp [ad]) upd_same)
    refine ⟨fun hk => ⟨⟨hGd, by rw [h2.len]; exact hk⟩, fun x G' hy => ?_⟩, fun hk => ⟨hGd, by rw [h2.len]; exact hk⟩⟩
    obtain ⟨rfl, key, hkey⟩ := hy
    refine ⟨Same.refl _, fun Y hY => ?_⟩
    have hx : (ks.map (·.2))[k]? = some x := by rw [List.getElem?_map, hkey]; rfl
    obtain ⟨dd, hd1, hd2⟩ := h2.vals.getV hx
    dsimp only
    rw [List.getD_eq_getElem?_getD, hd1]
    refine Dp.mono (fun a y e => ?_) hd2
    have e3 := vis a y e
    obtain ⟨n, e4⟩ := hid_some e3
    refine hid_of (fun z => ?_) (sG _ _ (hid_of (by simp [ad]) e4))
    rcases (hY a z).1 with q1 | q1
    · exact n (List.mem_append_left _ q1)
    · rw [show ad ([] : Ms) = [] from rfl, hid_nil] at q1
      rw [q1] at e4; cases e4
  · have npd : p ≠ d := fun z => by rw [z, upd_same] at hp; cases hp
    have hp0 : H p = none := by rw [upd_ne npd] at hp; exact hp
    rw [show ad ([] : Ms) = [] from rfl, hid_nil] at a2
    have h1d : H1 d = some (.frz od (.dK ks)) := a2 _ _ upd_same
    refine ⟨h1d, ?_⟩
    have s12 : Same (hid [d] H) (upd H1 d (.dK ks)) := fun a x e => by
      obtain ⟨n, e2⟩ := hid_some e
      have nd : a ≠ d := by simpa using n
      rw [upd_ne nd]; exact a2 _ _ (by rw [upd_ne nd]; exact e2)
    have sub : Same (hid ((p :: (d :: L)) ++ ad []) H1) (hid ((p :: L) ++ ad [(d, MO.dK kvs)]) (upd H1 d (.dK ks))) := fun a x e => by
      obtain ⟨n, e2⟩ := hid_some e
      have nd : a ≠ d := fun z => n (by rw [z]; simp)
      refine hid_of (fun z => ?_) (by rw [upd_ne nd]; exact e2)
      simp only [ad, List.map_cons, List.map_nil, List.append_nil, List.mem_append, List.mem_cons, List.not_mem_nil, or_false] at z n
      rcases z with (z | z) | z
      · exact n (.inl z)
      · exact n (.inr (.inr z))
      · exact nd z
    have dnL : ∀ (G : Hp), Same (hid ((p :: L) ++ ad [(d, MO.dK kvs)]) G) (hid (p :: (L ++ ad [(d, MO.dK kvs)])) G) := fun G => hid_sub fun a ha => by
      simpa using ha
    refine q p us (upd H1 d (.dK ks)) hp0 ⟨Paired.mapP o2.sl fun _ _ r => r.mono sub, fun x hx => ?_, o.nd, fun a x e => ?_, o.fn, fun a ha => ?_⟩ rfl (fun a x e => s12 a x (by simpa [ad] using e)) (by rw [upd_ne npd]; exact g1) ?_
    · have ex : x = (d, .dK kvs) := by simpa using hx
      subst ex
      refine ⟨ks, upd_same, DD.mono (fun a x e => ?_) h2⟩
      obtain ⟨n, e2⟩ := hid_some e
      have nd : a ≠ d := fun z => n (List.mem_append_right _ (by rw [z]; simp [ad]))
      refine hid_of (fun z => ?_) (s12 a x (hid_of (by simpa using nd) e2))
      rcases List.mem_append.mp z with z | z
      · rcases List.mem_cons.mp z with z | z
        · rw [z, hp0] at e2; cases e2
        · exact n (List.mem_append_left _ z)
      · exact n (List.mem_append_right _ z)
    · rw [upd_ne (fun z => by rw [z, hFd] at e; cases e)]; exact o2.fr a x e
    · by_cases e : a = d
      · rw [e, upd_same]; exact fun z => nomatch z
      · rw [upd_ne e]
        refine o2.lv a ?_
        rcases List.mem_cons.mp ha with z | z
        · rw [z]; exact List.mem_cons_self
        · exact List.mem_cons_of_mem _ (List.mem_cons_of_mem _ z)
    · rw [← e0]
      refine DpAll.mono (fun a x e => dnL _ a x (sub a x ?_)) g2
      simpa [ad] using e
end Wm

/-! a walk over a written dict; len of an own instance. -/
namespace Wm
open PySem L2 PySem.Spec PyProof.Rows
/-! ### for k in {..} -/
def iKeysL (td : TE) : TI := fun σ H R => td σ H fun x H1 => ∃ d kvs, x = .ref d ∧ H1 d = some (.dK kvs) ∧ ∀ od, R (Itk d od kvs) (upd H1 d (.frz od (.dK kvs)))
section
variable {X : Cx} {tg e : Expr} {td : TE}
theorem pi_keysL (he : PE X e td) : PI X tg e (iKeysL td) := by
  refine ⟨fun pins s σ H R I h => ?_⟩
  refine thn (he.run pins s σ H _ I h) fun u s1 ⟨x, H1, I0, rx, d, kvs, ex, hd0, q⟩ => ?_
  subst ex
  obtain rfl : u = Value.ref d := rx
  obtain ⟨o, I1⟩ := I0.lock hd0 trivial
  have hd : upd H1 d (.frz o (.dK kvs)) d = some (.frz o (.dK kvs)) := upd_same
  obtain ⟨hs, hgd, hx, es, ep, vs, hdt, hsz, kv, hm⟩ := I1.frzK hd
  refine iter_keys hs hgd hx hdt (pi_one (tk := s1.toks) I1 _ (turn_keys _ hdt) ⟨_, Heap.get?_push_size _ rfl, rfl, ?_⟩ (q o))
  rw [hsz] <;> rfl
end
/-! ### len of an own instance -/
def rLenOwn (C : Addr) (sp : Sp) (E : XK) : List V → Hp → VK → Prop := fun xs H Q => ∃ a dx fs, xs = [.ref a] ∧ H a = some (.ins C dx fs) ∧ sp [.ref a] H (fun v H' => ∃ n : Int, v = .int n ∧ (0 ≤ n ∧ n < 2 ^ 63) ∧ Q (.int n) H') E
theorem call_lenOwn {X : Cx} {CX : CXT} {C f : Addr} {fd : FuncData} {ps : List Str} {sp : Sp} {E : XK} {k : Nat} (F : FnOk X.prog X.w X.K X.mg X.base CX k f fd ps sp) (hr : Room (k + 1) X.A)
    (hs : PySem.W.findIn X.K (.ref C) "__len__" = some (some (.ref f))) (hf : PySem.W.isFn X.K (.ref f) = true) (hb : Binds X.K fd ps []) (hx : Passes CX X E) : CallR X (.builtin "len") (rLenOwn C sp E) := by
  intro pins s σ H xs us Q I r h
  obtain ⟨a, dx, fs, rfl, ha, hsp⟩ := h
  rw [Vals.ref1 r]
  obtain ⟨mA, J, _⟩ := ins_get I.hok ha
  obtain ⟨od, J, _⟩ := J.look
  obtain ⟨m, hF⟩ := I.fr
  refine PySem.W.len_K hF I.ok.mod.kin J hs hf ?_
  have hl := F.len _ _ _ _ hsp
  have r2 : Vals [V.ref a] [Value.ref a] := .cons rfl .nil
  refine wpAny_call (codeAny_mono (F.run X.A.in1 X.stack s H ⟨[.ref a], []⟩ [.ref a] [.ref a] _ E hr.in1 I.env0.in1 (by
    have := hb s [.ref a] I.kIn (by simpa using hl)
    simpa using this) r2 hsp) fun r s' hq => ?_)
  cases r with
  | error e => exact hx pins σ H s e s' I hq
  | ok fl =>
    cases fl with
    | ret w =>
      obtain ⟨z, H', I', rz, n, ez, hn, q⟩ := I.after hq
      subst ez
      obtain ⟨t, rfl⟩ := (show ∃ t, w = Value.int n t from rz)
      exact ⟨hn, ⟨.int n, H', I'.tok _, ⟨_, rfl⟩, q⟩⟩
    | next => exact False.elim hq
    | brk => exact False.elim hq
    | cont => exact False.elim hq
/-! ### the keys of a written dict -/
def ddI (acc : List Int) (ks : List Int) : List Int := ks.foldl (fun a k => if k ∈ a then a else a ++ [k]) acc
theorem ddI_mem : ∀ (ks acc : List Int) (x : Int), x ∈ ddI acc ks ↔ x ∈ acc ∨ x ∈ ks
  | [], acc, x => by simp [ddI]
  | k :: ks, acc, x => by
    show x ∈ ddI (if k ∈ acc then acc else acc ++ [k]) ks ↔ _
    rw [ddI_mem ks]
    by_cases h : k ∈ acc
    · rw [if_pos h, List.mem_cons]
      constructor
      · rintro (z | z)
        · exact .inl z
        · exact .inr (.inr z)
      · rintro (z | z | z)
        · exact .inl z
        · exact .inl (z ▸ h)
        · exact .inr z
    · rw [if_neg h, List.mem_append, List.mem_singleton, List.mem_cons]
      constructor
      · rintro ((z | z) | z)
        · exact .inl z
        · exact .inr (.inl z)
        · exact .inr (.inr z)
      · rintro (z | z | z)
        · exact .inl (.inl z)
        · exact .inl (.inr z)
        · exact .inr z
open Classical in
theorem putK_keys (kvs : List (Key × V)) (k : Key) (v : V) : (putK kvs k v).map (·.1) = if k ∈ kvs.map (·.1) then kvs.map (·.1) else kvs.map (·.1) ++ [k] := by
  unfold putK
  by_cases h : (kvs.any fun kv => decide (kv.1 = k)) = true
  · have hm : k ∈ kvs.map (·.1) := by
      obtain ⟨e, he, hk⟩ := List.any_eq_true.mp h
      exact List.mem_map.mpr ⟨e, he, of_decide_eq_true hk⟩
    rw [if_pos h, if_pos hm, List.map_map]
    refine List.map_congr_left fun a _ => ?_
    show (if a.1 = k then (a.1, v) else a).1 = a.1
    split <;> rfl
  · have hm : k ∉ kvs.map (·.1) := fun hm => by
      obtain ⟨e, he, hk⟩ := List.mem_map.mp hm
      exact h (List.any_eq_true.mpr ⟨e, he, decide_eq_true hk⟩)
    rw [if_neg h, if_neg hm, List.map_append]; rfl
theorem mergeK_keys : ∀ (kvs acc : List (Key × V)) (ks a : List Int), kvs.map (·.1) = ks.map Sum.inl → acc.map (·.1) = a.map Sum.inl → (mergeK acc kvs).map (·.1) = (ddI a ks).map Sum.inl
  | [], acc, ks, a, h1, h2 => by
    cases ks with
    | nil => exact h2
    | cons => cases h1
  | p :: kvs, acc, ks, a, h1, h2 => by
    cases ks with
    | nil => cases h1
    | cons k ks =>
      rw [List.map_cons, List.map_cons, List.cons.injEq] at h1
      show (mergeK (putK acc p.1 p.2) kvs).map _ = (ddI (if k ∈ a then a else a ++ [k]) ks).map _
      refine mergeK_keys kvs _ ks _ h1.2 ?_
      rw [putK_keys, h1.1, h2]
      have e : (Sum.inl k : Key) ∈ a.map Sum.inl ↔ k ∈ a := by
        rw [List.mem_map]
        exact ⟨fun ⟨x, hx, e⟩ => by cases e; exact hx, fun h => ⟨k, h, rfl⟩⟩
      by_cases h : k ∈ a
      · rw [if_pos (e.mpr h), if_pos h]
      · rw [if_neg (fun z => h (e.mp z)), if_neg h, List.map_append]; rfl
section
variable {K : PySem.W.Frag} {F F' H H' H0 H1 : Hp} {L : List Addr} {σ σ' : L2.St} {ρ ρ' : List Sl} {M M' M0 M1 M2 M3 Mn : Ms}
variable {te ta tb tc td tk tv : TE} {s : Sl} {trs : List (TE × TE)} {ks : List Int} {k : Int}
def EvPs (K : PySem.W.Frag) (trs : List (TE × TE)) (ρ : List Sl) (M : Ms) (ks : List Int) (M' : Ms) : Prop := ∀ F L σ H, Ok K F L σ H ρ M → ∀ Q : List (V × V) → Hp → Prop, (∀ ps H1, Ok K F L σ H1 ρ M' → ad M' = ad M → Same (hid (ad M) H) H1 → ps.map (·.1) = ks.map V.int → Q ps H1) → tPairs trs σ H Q
theorem eps_nil : EvPs K [] ρ M [] M := fun F L σ H o Q q => q [] H o rfl (hid_le _ _) rfl
theorem eps_cons (hk : Ev K tk ρ M (.dat (.int k)) M1) (hv : Ev K tv ρ M1 s M2) (hr : EvPs K trs ρ M2 ks M3) : EvPs K ((tk, tv) :: trs) ρ M (k :: ks) M3 := fun F L σ H o Q q =>
  hk F L σ H o _ fun x H1 o1 e1 a1 x1 => hv F L σ H1 o1 _ fun y H2 o2 e2 a2 y2 => hr F L σ H2 o2 _ fun ps H3 o3 e3 a3 hp => q _ H3 o3 (e3.trans (e2.trans e1)) (chain2 (e2.trans e1) (chain2 e1 a1 a2) a3) (by rw [List.map_cons, List.map_cons, hp, int_of x1])
theorem ei_disp (h : EvPs K trs ρ M ks M1) (hl : ks.length ≤ 15) : EvI K (iKeysL (tDisp trs)) ρ M (ddI [] ks).length (fun i => .int ((ddI [] ks).getD i 0)) M1 := fun F L σ H o R q => fun p hp => by
  have pm : p ∉ ad M := mem_ad_of (Q := fun _ => True) o hp
  have hFp : F p = none := o.fr.free hp
  refine h F (p :: L) σ _ (o.lay (x := .dK []) hp) _ fun ps H2 o2 e2 a2 hk => ?_
  have h2p : H2 p = some (.dK []) := a2 _ _ (hid_of pm upd_same)
  obtain ⟨kvs, hkv, hks⟩ : ∃ kvs : List (Key × V), ps = kvs.map (fun kv => (kV kv.1, kv.2)) ∧ kvs.map (·.1) = ks.map Sum.inl := by
    clear h q h2p a2 o2
    induction ks generalizing ps with
    | nil =>
      cases ps with
      | nil => exact ⟨[], rfl, rfl⟩
      | cons => cases hk
    | cons k ks ih =>
      cases ps with
      | nil => cases hk
      | cons a ps =>
        rw [List.map_cons, List.map_cons, List.cons.injEq] at hk
        obtain ⟨kvs, g1, g2⟩ := ih (by have := hl; rw [List.length_cons] at this; omega) ps hk.2
        refine ⟨(.inl k, a.2) :: kvs, ?_, by rw [List.map_cons, List.map_cons, g2]⟩
        rw [List.map_cons, ← g1]
        refine congrArg (· :: ps) (Prod.ext hk.1 rfl)
  have klen : kvs.length = ks.length := by rw [← List.length_map (f := (·.1)), hks, List.length_map]
  refine ⟨h2p, kvs, hkv, by omega, p, _, rfl, upd_same, fun od => ?_⟩
  have pm1 : p ∉ ad M1 := by rw [e2]; exact pm
  have o3 := ((o2.updL (x := .dK (mergeK [] kvs)) List.mem_cons_self hFp pm1).updL (x := .frz od (.dK (mergeK [] kvs))) List.mem_cons_self hFp pm1).lift
  have ek := mergeK_keys kvs [] ks [] hks rfl
  have elen : (mergeK [] kvs).length = (ddI [] ks).length := by rw [← List.length_map (f := (·.1)), ek, List.length_map]
  refine q _ _ o3 e2 (fun a x e => ?_) fun i G sG => ?_
  · obtain ⟨n, e3⟩ := hid_some e
    have np : a ≠ p := ne_of_none e3 hp
    rw [upd_ne np, upd_ne np]
    exact a2 a x (hid_of n (by rw [upd_ne np]; exact e3))
  · have hGp : G p = some (.frz od (.dK (mergeK [] kvs))) := sG _ _ (hid_of pm1 upd_same)
    refine ⟨fun hi => ⟨⟨hGp, by rw [elen]; exact hi⟩, fun x G' hy => ?_⟩, fun hi => ⟨hGp, by rw [elen]; exact hi⟩⟩
    obtain ⟨rfl, key, v, hkey, rfl⟩ := hy
    refine ⟨Same.refl _, fun Y hY => ?_⟩
    have e4 : ((mergeK [] kvs).map (·.1))[i]? = some key := by rw [List.getElem?_map, hkey]; rfl
    rw [ek, List.getElem?_map] at e4
    rw [List.getElem?_eq_getElem hi] at e4
    cases e4
    show Dp K _ _ (.int ((ddI [] ks).getD i 0))
    rw [List.getD_eq_getElem?_getD, List.getElem?_eq_getElem hi]
    exact .int _
/-- len(o), by its own __len__ -/
theorem ev_lenOwn {R : Ms → List Sl → PyData → Ms → Prop} {C p : Addr} {fs : List (Str × Sl)} {E : XK} {n : Int} (ha : Ev K ta ρ M (.loc (.ref p)) M1) (hp : (p, MO.ins C fs) ∈ M1) (M0 : Ms) (hs : M0.Sublist M1) (hR : R M0 [.loc (.ref p)] (.int n) M0) (hn : 0 ≤ n ∧ n < 2 ^ 63) :
    Ev K (tCB (rLenOwn C (spMs K R) E) (tCons ta tNil)) ρ M (.dat (.int n)) M1 := fun F L σ H o Q q => ha F L σ H o _ fun x H1 o1 e1 a1 x1 => by
  have ex : x = .ref p := x1
  subst ex
  obtain ⟨dx, gs, h1, h2⟩ := o1.ob _ hp
  have sub : ∀ a, a ∈ ad M0 → a ∈ ad M1 := fun a ha => by
    obtain ⟨y, hy, e⟩ := List.mem_map.mp ha
    exact List.mem_map.mpr ⟨y, hs.subset hy, e⟩
  refine ⟨p, dx, gs, rfl, h1, L ++ ad M1, M0, [.loc (.ref p)], .int n, M0, fun a ha => o1.there ha, fun a ha => List.mem_append_right _ (sub a ha), List.Nodup.sublist (hs.map _) o1.nd, .cons rfl .nil, fun x hx => o1.ob x (hs.subset hx), hR, rfl, fun v H2 s2 hm hv => ?_⟩
  obtain ⟨o2, s3⟩ := swap_ok (M2 := M1) o1 (fun nd => Sw.same hs nd) s2 hm rfl
  have ev : v = .int n := int_of (K := K) hv
  exact ⟨n, ev, hn, q _ H2 o2 e1 (chain2 e1 a1 s3) (.int n)⟩
end
end Wm

/-! dicts whose keys are tuples of a pair and two whole numbers, told as data. -/
namespace Wm
open PySem L2 PySem.Spec PyProof.Rows
abbrev spotD (k : Spot) : PyData := .tuple [.tuple [.int k.1.1, .int k.1.2], .int k.2.1, .int k.2.2]
section
variable {K : PySem.W.Frag} {H : Hp}
theorem spot_of {k : Spot} {v : V} (h : Dp K H v (spotD k)) : ∃ b, v = .ref b ∧ SpotAt H k b := by
  obtain ⟨a, xs, rfl, h1, h2⟩ := tupK_of (K := K) (H := H) h
  cases h2 with
  | cons g1 h2 =>
    cases h2 with
    | cons g2 h2 =>
      cases h2 with
      | cons g3 h2 =>
        cases h2
        obtain ⟨c, ys, rfl, h3, h4⟩ := tupK_of (K := K) (H := H) g1
        cases h4 with
        | cons g4 h4 =>
          cases h4 with
          | cons g5 h4 =>
            cases h4
            have e2 := int_of (K := K) (H := H) g2
            have e3 := int_of (K := K) (H := H) g3
            have e4 := int_of (K := K) (H := H) g4
            have e5 := int_of (K := K) (H := H) g5
            subst e2 e3 e4 e5
            exact ⟨a, rfl, c, h1, h3⟩
theorem SpotAt.un {X : List Addr} {k : Spot} {b : Addr} (h : SpotAt (hid X H) k b) : SpotAt H k b := h.mono fun _ _ e => (hid_some e).2
end
section
variable {H0 : Hp}
theorem NP.no {k : Spot} : ∀ {xs : NX} {kvs : List (Spot × PyData)}, NP H0 xs kvs → valD kvs k = none → atN xs k = none
  | _, _, .nil, _ => rfl
  | x :: xs, f :: fs, .cons r t, h => by
    have h' : (if f.1 = k then some f.2 else valD fs k) = Option.none := h
    by_cases e : f.1 = k
    · rw [if_pos e] at h'; cases h'
    · rw [if_neg e] at h'
      have ih := NP.no t h'
      have e' : ¬ x.1 = k := fun z => e (r.1.symm.trans z)
      simpa [atN, List.find?_cons, e'] using ih
theorem NP.yes {k : Spot} {d : PyData} : ∀ {xs : NX} {kvs : List (Spot × PyData)}, NP H0 xs kvs → valD kvs k = some d → ∃ c, atN xs k = some c ∧ d = .bool c
  | _, _, .nil, h => by cases h
  | x :: xs, f :: fs, .cons r t, h => by
    have h' : (if f.1 = k then some f.2 else valD fs k) = Option.some d := h
    by_cases e : f.1 = k
    · rw [if_pos e] at h'
      cases h'
      exact ⟨x.2.2, by simp [atN, List.find?_cons, r.1.trans e], r.2.1⟩
    · rw [if_neg e] at h'
      obtain ⟨c, g1, g2⟩ := NP.yes t h'
      have e' : ¬ x.1 = k := fun z => e (r.1.symm.trans z)
      exact ⟨c, by simpa [atN, List.find?_cons, e'] using g1, g2⟩
theorem NP.spots : ∀ {xs : NX} {kvs : List (Spot × PyData)}, NP H0 xs kvs → ∀ x ∈ xs, SpotAt H0 x.1 x.2.1
  | _, _, .nil, x, h => by cases h
  | _, _, .cons r t, x, h => by
    rcases List.mem_cons.mp h with z | z
    · subst z; exact r.2.2
    · exact NP.spots t x z
theorem NP.len {xs : NX} {kvs : List (Spot × PyData)} (r : NP H0 xs kvs) : xs.length = kvs.length := paired_len r
theorem atN_any (k : Spot) : ∀ xs : NX, (xs.any fun x => decide (x.1 = k)) = (atN xs k).isSome
  | [] => rfl
  | x :: xs => by
    have ih := atN_any k xs
    by_cases e : x.1 = k
    · simp [atN, List.find?_cons, e]
    · simpa [atN, List.find?_cons, e] using ih
theorem NP.put {xs : NX} {kvs : List (Spot × PyData)} {k : Spot} {b : Addr} (c : Bool) (r : NP H0 xs kvs) (hb : SpotAt H0 k b) : NP H0 (putN xs k b c) (putD kvs k (.bool c)) := by
  unfold putD putN
  rw [atN_any]
  cases e : valD kvs k with
  | none =>
    rw [r.no e]
    exact paired_app r (.cons ⟨rfl, rfl, hb⟩ .nil)
  | some x =>
    obtain ⟨y, h1, h2⟩ := r.yes e
    rw [h1]
    show NP H0 (xs.map _) (kvs.map _)
    clear e h1 h2
    induction r with
    | nil => exact .nil
    | cons r t ih =>
      rw [List.map_cons, List.map_cons]
      refine .cons ?_ ih
      split
      · rename_i e; rw [if_pos (r.1.symm.trans e)]; exact ⟨r.1, rfl, r.2.2⟩
      · rename_i e; rw [if_neg (fun z => e (r.1.trans z))]; exact r
end
section
variable {K : PySem.W.Frag} {F F' H H' H0 H1 : Hp} {L : List Addr} {σ σ' : L2.St} {ρ ρ' : List Sl} {M M' M0 M1 M2 M3 Mn : Ms}
variable {te ta tb tc ti td ty tx tv : TE} {tt : TT} {tr : TA} {s s1 s2 : Sl} {ss : List Sl} {d d1 d2 d3 : PyData} {ds es : List PyData} {D : Ends} {tu tw tz : TS} {g : TG} {p q : Addr}
theorem dN_at (o : Ok K F L σ H ρ M) {kvs : List (Spot × PyData)} (hp : (p, MO.dN kvs) ∈ M) : ∃ xs, H p = some (.ext (φN p xs)) ∧ NP (hid (L ++ ad M) H) xs kvs := o.ob _ hp
theorem dQ_at (o : Ok K F L σ H ρ M) {Φ : List (Spot × PyData) → Prop} (hp : (p, MO.dQ Φ) ∈ M) : ∃ xs kvs, Φ kvs ∧ H p = some (.ext (φN p xs)) ∧ NP (hid (L ++ ad M) H) xs kvs := o.ob _ hp
theorem nw_dN : ∀ F L σ H, Ok K F L σ H ρ M → ∀ Q : VK, (∀ q H1, F q = none → q ∉ ad M → Ok K F L σ H1 ρ (M ++ [(q, .dN [])]) → Same (hid (ad M) H) H1 → Q (.ref q) H1) → tDNewN σ H Q := fun F L σ H o Q k q hq => by
  obtain ⟨h1, h2, h3, h4⟩ := new_dict (y := .dN []) (x := .ext (φN q [])) o hq fun G => ⟨[], upd_same, .nil⟩
  exact k q _ h1 h2 h3 h4
/-- d[k], whatever the dict holds else -/
theorem ev_ngetQ {k : Spot} {Φ : List (Spot × PyData) → Prop} {c : Bool} (hd : Ev K td ρ M (.loc (.ref p)) M) (hk : Ev K ty ρ M (.dat (spotD k)) M) (hp : (p, MO.dQ Φ) ∈ M) (hv : ∀ kvs, Φ kvs → valD kvs k = some (.bool c)) : Ev K (tNGet td ty) ρ M (.dat (.bool c)) M := fun F L σ H o Q q =>
  hd F L σ H o _ fun x H1 o1 e1 a1 x1 => hk F L σ H1 o1 _ fun y H2 o2 e2 a2 y2 => by
    have ex : x = .ref p := x1
    subst ex
    obtain ⟨b, rfl, hb⟩ := spot_of y2
    obtain ⟨xs, kvs, h0, h1, h2⟩ := dQ_at o2 hp
    obtain ⟨c', g1, g2⟩ := h2.yes (hv kvs h0)
    cases g2
    exact ⟨p, c, rfl, ⟨xs, k, b, h1, fun x hx => (h2.spots x hx).un, rfl, hb.un, g1.symm⟩, q _ H2 o2 e2 (chain2 rfl a1 a2) (.bl c)⟩
theorem ev_ngetN {k : Spot} {kvs : List (Spot × PyData)} {c : Bool} (hd : Ev K td ρ M (.loc (.ref p)) M) (hk : Ev K ty ρ M (.dat (spotD k)) M) (hp : (p, MO.dN kvs) ∈ M) (hv : valD kvs k = some (.bool c)) : Ev K (tNGet td ty) ρ M (.dat (.bool c)) M := fun F L σ H o Q q =>
  hd F L σ H o _ fun x H1 o1 e1 a1 x1 => hk F L σ H1 o1 _ fun y H2 o2 e2 a2 y2 => by
    have ex : x = .ref p := x1
    subst ex
    obtain ⟨b, rfl, hb⟩ := spot_of y2
    obtain ⟨xs, h1, h2⟩ := dN_at o2 hp
    obtain ⟨c', g1, g2⟩ := h2.yes hv
    cases g2
    exact ⟨p, c, rfl, ⟨xs, k, b, h1, fun x hx => (h2.spots x hx).un, rfl, hb.un, g1.symm⟩, q _ H2 o2 e2 (chain2 rfl a1 a2) (.bl c)⟩
theorem et_nNotInN {k : Spot} {kvs : List (Spot × PyData)} (hk : Ev K ty ρ M (.dat (spotD k)) M) (hd : Ev K td ρ M (.loc (.ref p)) M) (hp : (p, MO.dN kvs) ∈ M) : EvT K (tB (tNNotIn ty td)) ρ M (valD kvs k).isNone M := fun F L σ H o Q q =>
  hk F L σ H o _ fun y H1 o1 e1 a1 y1 => hd F L σ H1 o1 _ fun x H2 o2 e2 a2 x2 => by
    have ex : x = .ref p := x2
    subst ex
    obtain ⟨b, rfl, hb⟩ := spot_of (K := K) (H := hid (L ++ ad M) H2) (later (L := L) rfl a2 y1)
    obtain ⟨xs, h1, h2⟩ := dN_at o2 hp
    refine ⟨p, _, rfl, ⟨xs, k, b, h1, fun x hx => (h2.spots x hx).un, rfl, hb.un, rfl⟩, _, rfl, ?_⟩
    have e : (!(atN xs k).isSome) = (valD kvs k).isNone := by
      cases e : valD kvs k with
      | none => rw [h2.no e]; rfl
      | some d' =>
        obtain ⟨v, g1, _⟩ := h2.yes e
        rw [g1]; rfl
    rw [e]
    exact q H2 o2 e2 (chain2 rfl a1 a2)
/-- d[k] = v -/
theorem s_nputQ {k : Spot} {Φ Ψ : List (Spot × PyData) → Prop} {c : Bool} {j : Nat} (hv : Ev K tv ρ M (.dat (.bool c)) M1) (hd : Ev K td ρ M1 (.loc (.ref p)) M1) (hk : Ev K ty ρ M1 (.dat (spotD k)) M1) (hj : M1[j]? = some (p, .dQ Φ)) (hz : ∀ kvs, Φ kvs → kvs.length < 1000000 ∧ Ψ (putD kvs k (.bool c)))
    (k' : ∀ H, Ok K F L σ H ρ (M1.set j (p, .dQ Ψ)) → D.nx σ H) (o : Ok K F L σ H ρ M) : sNPut td ty tv D σ H := hv F L σ H o _ fun v H1 o1 e1 a1 v1 => hd F L σ H1 o1 _ fun x H2 o2 e2 a2 x2 => hk F L σ H2 o2 _ fun y H3 o3 e3 a3 y3 => by
  have ex : x = .ref p := x2
  subst ex
  obtain ⟨b, rfl, hb⟩ := spot_of y3
  have ev := bl_of v1
  subst ev
  obtain ⟨xs, kvs, h0, h1, h2⟩ := dQ_at o3 (List.mem_of_getElem? hj)
  obtain ⟨z1, z2⟩ := hz kvs h0
  refine ⟨p, _, rfl, ⟨xs, k, b, c, h1, fun x hx => (h2.spots x hx).un, rfl, hb.un, rfl, by rw [h2.len]; exact line_lt z1, rfl⟩, k' _ ?_⟩
  refine o3.change hj (same_hid_upd (by simp)) ⟨_, _, z2, upd_same, ?_⟩ (live_upd o3)
  rw [hid_upd (List.mem_append_right _ (mem_ad hj))]
  exact h2.put c hb
theorem s_nputN {k : Spot} {kvs : List (Spot × PyData)} {c : Bool} {j : Nat} (hv : Ev K tv ρ M (.dat (.bool c)) M1) (hd : Ev K td ρ M1 (.loc (.ref p)) M1) (hk : Ev K ty ρ M1 (.dat (spotD k)) M1) (hj : M1[j]? = some (p, .dN kvs)) (hz : kvs.length < 1000000)
    (k' : ∀ H, Ok K F L σ H ρ (M1.set j (p, .dN (putD kvs k (.bool c)))) → D.nx σ H) (o : Ok K F L σ H ρ M) : sNPut td ty tv D σ H := hv F L σ H o _ fun v H1 o1 e1 a1 v1 => hd F L σ H1 o1 _ fun x H2 o2 e2 a2 x2 => hk F L σ H2 o2 _ fun y H3 o3 e3 a3 y3 => by
  have ex : x = .ref p := x2
  subst ex
  obtain ⟨b, rfl, hb⟩ := spot_of y3
  have ev := bl_of v1
  subst ev
  obtain ⟨xs, h1, h2⟩ := dN_at o3 (List.mem_of_getElem? hj)
  refine ⟨p, _, rfl, ⟨xs, k, b, c, h1, fun x hx => (h2.spots x hx).un, rfl, hb.un, rfl, by rw [h2.len]; exact line_lt hz, rfl⟩, k' _ ?_⟩
  refine o3.change hj (same_hid_upd (by simp)) ⟨_, upd_same, ?_⟩ (live_upd o3)
  rw [hid_upd (List.mem_append_right _ (mem_ad hj))]
  exact h2.put c hb
theorem q_nputQ {k : Spot} {Φ Ψ : List (Spot × PyData) → Prop} {c : Bool} {j : Nat} (hv : Ev K tv ρ M (.dat (.bool c)) M1) (hd : Ev K td ρ M1 (.loc (.ref p)) M1) (hk : Ev K ty ρ M1 (.dat (spotD k)) M1) (hj : M1[j]? = some (p, .dQ Φ)) (hz : ∀ kvs, Φ kvs → kvs.length < 1000000 ∧ Ψ (putD kvs k (.bool c)))
    (k' : ∀ H, Ok K F L σ H ρ (M1.set j (p, .dQ Ψ)) → tz D σ H) (o : Ok K F L σ H ρ M) : tSeq (sNPut td ty tv) tz D σ H := s_nputQ (D := { D with nx := tz D }) hv hd hk hj hz k' o
theorem q_nputN {k : Spot} {kvs : List (Spot × PyData)} {c : Bool} {j : Nat} (hv : Ev K tv ρ M (.dat (.bool c)) M1) (hd : Ev K td ρ M1 (.loc (.ref p)) M1) (hk : Ev K ty ρ M1 (.dat (spotD k)) M1) (hj : M1[j]? = some (p, .dN kvs)) (hz : kvs.length < 1000000)
    (k' : ∀ H, Ok K F L σ H ρ (M1.set j (p, .dN (putD kvs k (.bool c)))) → tz D σ H) (o : Ok K F L σ H ρ M) : tSeq (sNPut td ty tv) tz D σ H := s_nputN (D := { D with nx := tz D }) hv hd hk hj hz k' o
/-- opened, closed, told less -/
theorem Ok.openQ {Φ : List (Spot × PyData) → Prop} {j : Nat} (o : Ok K F L σ H ρ M) (hj : M[j]? = some (p, .dQ Φ)) : ∃ kvs, Φ kvs ∧ Ok K F L σ H ρ (M.set j (p, .dN kvs)) := by
  obtain ⟨xs, kvs, h0, h1, h2⟩ := o.ob _ (List.mem_of_getElem? hj)
  exact ⟨kvs, h0, o.change hj (hid_le _ _) ⟨xs, h1, h2⟩ fun a ha _ => o.lv a ha⟩
theorem Ok.closeQ {Φ : List (Spot × PyData) → Prop} {j : Nat} {kvs : List (Spot × PyData)} (o : Ok K F L σ H ρ M) (hj : M[j]? = some (p, .dN kvs)) (hp : Φ kvs) : Ok K F L σ H ρ (M.set j (p, .dQ Φ)) := by
  obtain ⟨xs, h1, h2⟩ := o.ob _ (List.mem_of_getElem? hj)
  exact o.change hj (hid_le _ _) ⟨xs, kvs, hp, h1, h2⟩ fun a ha _ => o.lv a ha
theorem Ok.lessQ {Φ Ψ : List (Spot × PyData) → Prop} {j : Nat} (o : Ok K F L σ H ρ M) (hj : M[j]? = some (p, .dQ Φ)) (hp : ∀ kvs, Φ kvs → Ψ kvs) : Ok K F L σ H ρ (M.set j (p, .dQ Ψ)) := by
  obtain ⟨xs, kvs, h0, h1, h2⟩ := o.ob _ (List.mem_of_getElem? hj)
  exact o.change hj (hid_le _ _) ⟨xs, kvs, hp _ h0, h1, h2⟩ fun a ha _ => o.lv a ha
/-- d, n = {}, .. -/
theorem s_parNw {i j : Nat} {x : MO} (hv : ∀ F L σ H, Ok K F L σ H ρ M → ∀ Q : VK, (∀ q H1, F q = none → q ∉ ad M → Ok K F L σ H1 ρ (M ++ [(q, x)]) → Same (hid (ad M) H) H1 → Q (.ref q) H1) → te σ H Q)
    (h2 : ∀ p, Ev K tb ρ (M ++ [(p, x)]) (.dat d) (M ++ [(p, x)])) (k : ∀ p σ H, Ok K F L σ H ((ρ.set i (.loc (.ref p))).set j (.dat d)) (M ++ [(p, x)]) → D.nx σ H) (o : Ok K F L σ H ρ M) : tPar i j (tCons te (tCons tb tNil)) D σ H := hv F L σ H o _ fun p H1 hf hm o1 a1 => h2 p F L σ H1 o1 _ fun y H2 o2 e2 a2 y2 =>
  ⟨.ref p, y, rfl, k p _ _ (Ok.set (Ok.set (v := .ref p) (s := .loc (.ref p)) o2 rfl) y2)⟩
theorem q_parNw {i j : Nat} {x : MO} (hv : ∀ F L σ H, Ok K F L σ H ρ M → ∀ Q : VK, (∀ q H1, F q = none → q ∉ ad M → Ok K F L σ H1 ρ (M ++ [(q, x)]) → Same (hid (ad M) H) H1 → Q (.ref q) H1) → te σ H Q)
    (h2 : ∀ p, Ev K tb ρ (M ++ [(p, x)]) (.dat d) (M ++ [(p, x)])) (k : ∀ p σ H, Ok K F L σ H ((ρ.set i (.loc (.ref p))).set j (.dat d)) (M ++ [(p, x)]) → tz D σ H) (o : Ok K F L σ H ρ M) : tSeq (tPar i j (tCons te (tCons tb tNil))) tz D σ H := s_parNw (D := { D with nx := tz D }) hv h2 k o
end
end Wm

namespace Wm
/-! ### least and greatest of a list -/
def mxL : List Int → Int
  | [] => 0
  | [x] => x
  | x :: y :: r => max x (mxL (y :: r))
def mnL : List Int → Int
  | [] => 0
  | [x] => x
  | x :: y :: r => min x (mnL (y :: r))
theorem mxL_mem : ∀ {xs : List Int}, xs ≠ [] → mxL xs ∈ xs
  | [], h => absurd rfl h
  | [x], _ => by simp [mxL]
  | x :: y :: r, _ => by
    have ih := mxL_mem (xs := y :: r) (by simp)
    unfold mxL
    by_cases h : mxL (y :: r) ≤ x
    · rw [Int.max_eq_left h]; exact List.mem_cons_self
    · rw [Int.max_eq_right (by omega)]; exact List.mem_cons_of_mem _ ih
theorem mxL_le : ∀ {xs : List Int} {x : Int}, x ∈ xs → x ≤ mxL xs
  | [x], y, h => by simp at h; subst h; exact Int.le_refl _
  | x :: y :: r, z, h => by
    unfold mxL
    rcases List.mem_cons.mp h with h | h
    · subst h; omega
    · have := mxL_le h; omega
theorem mnL_mem : ∀ {xs : List Int}, xs ≠ [] → mnL xs ∈ xs
  | [], h => absurd rfl h
  | [x], _ => by simp [mnL]
  | x :: y :: r, _ => by
    have ih := mnL_mem (xs := y :: r) (by simp)
    unfold mnL
    by_cases h : x ≤ mnL (y :: r)
    · rw [Int.min_eq_left h]; exact List.mem_cons_self
    · rw [Int.min_eq_right (by omega)]; exact List.mem_cons_of_mem _ ih
theorem mnL_le : ∀ {xs : List Int} {x : Int}, x ∈ xs → mnL xs ≤ x
  | [x], y, h => by simp at h; subst h; exact Int.le_refl _
  | x :: y :: r, z, h => by
    unfold mnL
    rcases List.mem_cons.mp h with h | h
    · subst h; omega
    · have := mnL_le h; omega
/-! ### the parts that a move leaves -/
def cutsOf (lo hi p l : Int) : List (Int × Int) :=
  if p = l then [(lo, hi)] else
    (if lo ≤ min hi ((p + l - 1) / 2) then [(lo, min hi ((p + l - 1) / 2))] else []) ++
    ((if max lo ((p + l + 1) / 2) ≤ min hi ((p + l) / 2) then [(max lo ((p + l + 1) / 2), min hi ((p + l) / 2))] else []) ++
    (if max lo ((p + l) / 2 + 1) ≤ hi then [(max lo ((p + l) / 2 + 1), hi)] else []))
theorem cuts_sub {lo hi p l : Int} (h : lo ≤ hi) {c : Int × Int} (hc : c ∈ cutsOf lo hi p l) : lo ≤ c.1 ∧ c.1 ≤ c.2 ∧ c.2 ≤ hi := by
  unfold cutsOf at hc
  split at hc
  · have e : c = (lo, hi) := by simpa using hc
    subst e
    exact ⟨Int.le_refl _, h, Int.le_refl _⟩
  · simp only [List.mem_append] at hc
    rcases hc with hc | hc | hc
    all_goals
      split at hc
      · have e := List.mem_singleton.mp hc
        subst e
        refine ⟨?_, ?_, ?_⟩ <;> dsimp only <;> omega
      · cases hc
/-- more than one: each is smaller -/
theorem cuts_lt {lo hi p l : Int} (h : lo ≤ hi) (h2 : 1 < (cutsOf lo hi p l).length) {c : Int × Int} (hc : c ∈ cutsOf lo hi p l) : c.2 - c.1 < hi - lo := by
  unfold cutsOf at hc h2
  split at hc
  · rename_i e
    rw [if_pos e] at h2
    simp at h2
  · rename_i e
    rw [if_neg e] at h2
    simp only [List.length_append] at h2
    simp only [List.mem_append] at hc
    rcases hc with hc | hc | hc
    all_goals
      split at hc
      · have e := List.mem_singleton.mp hc
        subst e
        dsimp only
        (repeat' split at h2) <;> simp only [List.length_cons, List.length_nil] at h2 <;> omega
      · cases hc
theorem cuts_self {lo hi p : Int} : cutsOf lo hi p p = [(lo, hi)] := by unfold cutsOf; rw [if_pos rfl]
theorem cuts_one {lo hi p l : Int} (h : lo ≤ hi) (h2 : ¬ 1 < (cutsOf lo hi p l).length) : cutsOf lo hi p l = [(lo, hi)] := by
  unfold cutsOf at h2 ⊢
  split
  · rfl
  · rename_i e
    rw [if_neg e] at h2
    simp only [List.length_append] at h2
    by_cases g1 : lo ≤ min hi ((p + l - 1) / 2) <;> by_cases g2 : max lo ((p + l + 1) / 2) ≤ min hi ((p + l) / 2) <;> by_cases g3 : max lo ((p + l) / 2 + 1) ≤ hi <;> simp only [g1, g2, g3, if_true, if_false, List.length_cons, List.length_nil] at h2 ⊢ <;> first
      | omega
      | (simp only [List.nil_append, List.append_nil, List.cons.injEq, Prod.mk.injEq, and_true, true_and]; omega)
theorem cuts_ne {lo hi p l : Int} (h : lo ≤ hi) : cutsOf lo hi p l ≠ [] := fun e => by
  have := cuts_one (p := p) (l := l) h (by rw [e]; simp)
  rw [e] at this; cases this
/-- a part of less lies in a part of more -/
theorem cuts_in {lo hi lo' hi' p l : Int} (h1 : lo ≤ lo') (h2 : lo' ≤ hi') (h3 : hi' ≤ hi) {c : Int × Int} (hc : c ∈ cutsOf lo' hi' p l) : ∃ d ∈ cutsOf lo hi p l, d.1 ≤ c.1 ∧ c.2 ≤ d.2 := by
  unfold cutsOf at hc ⊢
  split at hc
  · rename_i e
    rw [if_pos e]
    have e := List.mem_singleton.mp hc
    subst e
    exact ⟨_, List.mem_singleton.mpr rfl, h1, h3⟩
  · rename_i e
    rw [if_neg e]
    simp only [List.mem_append] at hc ⊢
    rcases hc with hc | hc | hc
    · split at hc
      · have e := List.mem_singleton.mp hc
        subst e
        refine ⟨_, .inl (by rw [if_pos (by omega)]; exact List.mem_singleton.mpr rfl), ?_, ?_⟩ <;> dsimp only <;> omega
      · cases hc
    · split at hc
      · have e := List.mem_singleton.mp hc
        subst e
        refine ⟨_, .inr (.inl (by rw [if_pos (by omega)]; exact List.mem_singleton.mpr rfl)), ?_, ?_⟩ <;> dsimp only <;> omega
      · cases hc
    · split at hc
      · have e := List.mem_singleton.mp hc
        subst e
        refine ⟨_, .inr (.inr (by rw [if_pos (by omega)]; exact List.mem_singleton.mpr rfl)), ?_, ?_⟩ <;> dsimp only <;> omega
      · cases hc
theorem cuts_len {lo hi p l : Int} : (cutsOf lo hi p l).length ≤ 3 := by
  unfold cutsOf
  split
  · simp
  · simp only [List.length_append]
    split <;> split <;> split <;> simp
theorem cuts_step {lo hi : Int} (h : lo < hi) : cutsOf lo hi lo (lo + 1) = [(lo, lo), (lo + 1, hi)] := by
  unfold cutsOf
  rw [if_neg (by omega), if_pos (by omega), if_neg (by omega), if_pos (by omega)]
  simp only [List.nil_append, List.cons_append, List.cons.injEq, Prod.mk.injEq, and_true, true_and]
  omega
/-! ### costs -/
def costOf (b : Bool) (p l : Int) : Int := if b = true then ((p - l).natAbs : Int) else 1
theorem cost_nn {b : Bool} {p l : Int} : 0 ≤ costOf b p l := by unfold costOf; split <;> omega
theorem cost_pos {b : Bool} {p l : Int} (h : l ≠ p) : 1 ≤ costOf b p l := by unfold costOf; split <;> omega
theorem cost_tri {b : Bool} {p q l : Int} : costOf b p l ≤ costOf b p q + costOf b q l := by unfold costOf; split <;> omega
theorem cost_sym {b : Bool} {p l : Int} : costOf b p l = costOf b l p := by unfold costOf; split <;> omega
/-- the worst part -/
def worst (Bf : Int → Int → Int → Int) (lo hi p l : Int) : Int := mxL ((cutsOf lo hi p l).map fun c => Bf c.1 c.2 l)
theorem worst_le {Bf : Int → Int → Int → Int} {lo hi p l : Int} {c : Int × Int} (hc : c ∈ cutsOf lo hi p l) : Bf c.1 c.2 l ≤ worst Bf lo hi p l := mxL_le (List.mem_map.mpr ⟨c, hc, rfl⟩)
theorem worst_at {Bf : Int → Int → Int → Int} {lo hi p l : Int} (h : lo ≤ hi) : ∃ c ∈ cutsOf lo hi p l, worst Bf lo hi p l = Bf c.1 c.2 l := by
  have hm : worst Bf lo hi p l ∈ (cutsOf lo hi p l).map fun c => Bf c.1 c.2 l := mxL_mem (by
    intro e
    exact cuts_ne h (List.map_eq_nil_iff.mp e))
  obtain ⟨c, h1, h2⟩ := List.mem_map.mp hm
  exact ⟨c, h1, h2.symm⟩
/-- what a turn of with_news makes -/
def newsStep (Bf : Int → Int → Int → Int) (b : Bool) (lo hi p : Int) (acc : Option Int) (l : Int) : Option Int :=
  if 1 < (cutsOf lo hi p l).length then
    match acc with
    | none => some (costOf b p l + worst Bf lo hi p l)
    | some a => if costOf b p l + worst Bf lo hi p l < a then some (costOf b p l + worst Bf lo hi p l) else some a
  else acc
def newsK (Bf : Int → Int → Int → Int) (b : Bool) (lo hi p : Int) : Nat → Option Int
  | 0 => none
  | k + 1 => newsStep Bf b lo hi p (newsK Bf b lo hi p k) (1 + (k : Int))
theorem newsK_spec {Bf : Int → Int → Int → Int} {b : Bool} {lo hi p : Int} : ∀ k : Nat,
    (newsK Bf b lo hi p k = none → ∀ l : Int, 1 ≤ l → l ≤ (k : Int) → ¬ 1 < (cutsOf lo hi p l).length) ∧
    ∀ v, newsK Bf b lo hi p k = some v → (∃ l : Int, 1 ≤ l ∧ l ≤ (k : Int) ∧ 1 < (cutsOf lo hi p l).length ∧ v = costOf b p l + worst Bf lo hi p l) ∧ ∀ l : Int, 1 ≤ l → l ≤ (k : Int) → 1 < (cutsOf lo hi p l).length → v ≤ costOf b p l + worst Bf lo hi p l
  | 0 => ⟨fun _ l h1 h2 => by omega, fun v e => by cases e⟩
  | k + 1 => by
    obtain ⟨h1, h2⟩ := newsK_spec (Bf := Bf) (b := b) (lo := lo) (hi := hi) (p := p) k
    unfold newsK newsStep
    have last : ∀ l : Int, 1 ≤ l → l ≤ ((k + 1 : Nat) : Int) → l ≤ k ∨ l = 1 + (k : Int) := fun l _ _ => by omega
    split
    · rename_i hl
      split
      · rename_i e
        refine ⟨(fun z => nomatch z), fun v e2 => ?_⟩
        cases e2
        refine ⟨⟨1 + k, by omega, by omega, hl, rfl⟩, fun l g1 g2 g3 => ?_⟩
        rcases last l g1 g2 with g | g
        · exact absurd g3 (h1 e l g1 g)
        · subst g; exact Int.le_refl _
      · rename_i a e
        obtain ⟨⟨l0, a1, a2, a3, a4⟩, a5⟩ := h2 a e
        split
        · rename_i hlt
          refine ⟨(fun z => nomatch z), fun v e2 => ?_⟩
          cases e2
          refine ⟨⟨1 + k, by omega, by omega, hl, rfl⟩, fun l g1 g2 g3 => ?_⟩
          rcases last l g1 g2 with g | g
          · have := a5 l g1 g g3; omega
          · subst g; exact Int.le_refl _
        · rename_i hlt
          refine ⟨(fun z => nomatch z), fun v e2 => ?_⟩
          cases e2
          refine ⟨⟨l0, a1, by omega, a3, a4⟩, fun l g1 g2 g3 => ?_⟩
          rcases last l g1 g2 with g | g
          · exact a5 l g1 g g3
          · subst g; omega
    · rename_i hl
      refine ⟨fun e l g1 g2 => ?_, fun v e => ?_⟩
      · rcases last l g1 g2 with g | g
        · exact h1 e l g1 g
        · subst g; exact hl
      · obtain ⟨⟨l0, a1, a2, a3, a4⟩, a5⟩ := h2 v e
        refine ⟨⟨l0, a1, by omega, a3, a4⟩, fun l g1 g2 g3 => ?_⟩
        rcases last l g1 g2 with g | g
        · exact a5 l g1 g g3
        · subst g; exact absurd g3 hl
/-- what the table's inner loop has gathered for a place -/
def someK (b : Bool) (news : Int → Option Int) (p : Int) : Nat → List Int
  | 0 => match news p with | none => [] | some v => [v]
  | k + 1 => match news (1 + (k : Int)) with
    | none => someK b news p k
    | some v => if (1 + (k : Int)) = p then someK b news p k else someK b news p k ++ [costOf b p (1 + (k : Int)) + v]
theorem someK_mem {b : Bool} {news : Int → Option Int} {p x : Int} : ∀ k : Nat, x ∈ someK b news p k ↔ news p = some x ∨ ∃ (l v : Int), 1 ≤ l ∧ l ≤ (k : Int) ∧ l ≠ p ∧ news l = some v ∧ x = costOf b p l + v
  | 0 => by
    unfold someK
    split
    · rename_i e
      constructor
      · intro h; cases h
      · rintro (h | ⟨l, v, h1, h2, _⟩)
        · rw [e] at h; cases h
        · omega
    · rename_i v e
      constructor
      · intro h; rw [List.mem_singleton.mp h]; exact .inl e
      · rintro (h | ⟨l, v, h1, h2, _⟩)
        · rw [e] at h; cases h; exact List.mem_singleton.mpr rfl
        · omega
  | k + 1 => by
    have ih := someK_mem (b := b) (news := news) (p := p) (x := x) k
    unfold someK
    have up : (∃ (l v : Int), 1 ≤ l ∧ l ≤ ((k + 1 : Nat) : Int) ∧ l ≠ p ∧ news l = some v ∧ x = costOf b p l + v) ↔ (∃ (l v : Int), 1 ≤ l ∧ l ≤ (k : Int) ∧ l ≠ p ∧ news l = some v ∧ x = costOf b p l + v) ∨ ∃ v, (1 + (k : Int)) ≠ p ∧ news (1 + (k : Int)) = some v ∧ x = costOf b p (1 + (k : Int)) + v := by
      constructor
      · rintro ⟨l, v, h1, h2, h3, h4, h5⟩
        by_cases g : l ≤ (k : Int)
        · exact .inl ⟨l, v, h1, g, h3, h4, h5⟩
        · have e : l = 1 + (k : Int) := by omega
          subst e
          exact .inr ⟨v, h3, h4, h5⟩
      · rintro (⟨l, v, h1, h2, h3, h4, h5⟩ | ⟨v, h3, h4, h5⟩)
        · exact ⟨l, v, h1, by omega, h3, h4, h5⟩
        · exact ⟨_, v, by omega, by omega, h3, h4, h5⟩
    rw [up]
    split
    · rename_i e
      rw [ih]
      constructor
      · rintro (h | h)
        · exact .inl h
        · exact .inr (.inl h)
      · rintro (h | h | ⟨v, _, h, _⟩)
        · exact .inl h
        · exact .inr h
        · rw [e] at h; cases h
    · rename_i v e
      split
      · rename_i ep
        rw [ih]
        constructor
        · rintro (h | h)
          · exact .inl h
          · exact .inr (.inl h)
        · rintro (h | h | ⟨v, h, _⟩)
          · exact .inl h
          · exact .inr h
          · exact absurd ep h
      · rename_i ep
        rw [List.mem_append, ih, List.mem_singleton]
        constructor
        · rintro ((h | h) | h)
          · exact .inl h
          · exact .inr (.inl h)
          · exact .inr (.inr ⟨v, ep, e, h⟩)
        · rintro (h | h | ⟨u, _, h, h2⟩)
          · exact .inl (.inl h)
          · exact .inl (.inr h)
          · rw [e] at h; cases h; exact .inr h2
def tabV (Bf : Int → Int → Int → Int) (b : Bool) (n : Nat) (lo hi p : Int) : Int := mnL (someK b (fun q => newsK Bf b lo hi q n) p n)
def bestK (b : Bool) (n : Nat) : Nat → Int → Int → Int → Int
  | 0, _, _, _ => 0
  | k + 1, lo, hi, p => if lo = hi then 0 else tabV (bestK b n k) b n lo hi p
theorem worst_congr {B1 B2 : Int → Int → Int → Int} {lo hi p l : Int} (h : ∀ c ∈ cutsOf lo hi p l, B1 c.1 c.2 l = B2 c.1 c.2 l) : worst B1 lo hi p l = worst B2 lo hi p l := by
  unfold worst
  congr 1
  exact List.map_congr_left h
theorem newsK_congr {B1 B2 : Int → Int → Int → Int} {b : Bool} {lo hi p : Int} (hle : lo ≤ hi) (h : ∀ a c q, lo ≤ a → a ≤ c → c ≤ hi → c - a < hi - lo → B1 a c q = B2 a c q) : ∀ k, newsK B1 b lo hi p k = newsK B2 b lo hi p k
  | 0 => rfl
  | k + 1 => by
    unfold newsK newsStep
    rw [newsK_congr hle h k]
    by_cases g : 1 < (cutsOf lo hi p (1 + (k : Int))).length
    · rw [if_pos g, if_pos g, worst_congr (B1 := B1) (B2 := B2)]
      intro c hc
      obtain ⟨h1, h2, h3⟩ := cuts_sub hle hc
      exact h _ _ _ h1 h2 h3 (cuts_lt hle g hc)
    · rw [if_neg g, if_neg g]
theorem tabV_congr {B1 B2 : Int → Int → Int → Int} {b : Bool} {n : Nat} {lo hi p : Int} (hle : lo ≤ hi) (h : ∀ a c q, lo ≤ a → a ≤ c → c ≤ hi → c - a < hi - lo → B1 a c q = B2 a c q) : tabV B1 b n lo hi p = tabV B2 b n lo hi p := by
  unfold tabV
  rw [show (fun q => newsK B1 b lo hi q n) = fun q => newsK B2 b lo hi q n from funext fun q => newsK_congr hle h n]
theorem bestK_eq {b : Bool} {n : Nat} : ∀ (k j : Nat) (lo hi p : Int), lo ≤ hi → hi - lo ≤ k → hi - lo ≤ j → bestK b n k lo hi p = bestK b n j lo hi p
  | 0, 0, _, _, _, _, _, _ => rfl
  | 0, j + 1, lo, hi, p, h, h1, h2 => by
    unfold bestK
    rw [if_pos (by omega)]
  | k + 1, 0, lo, hi, p, h, h1, h2 => by
    unfold bestK
    rw [if_pos (by omega)]
  | k + 1, j + 1, lo, hi, p, h, h1, h2 => by
    unfold bestK
    by_cases e : lo = hi
    · rw [if_pos e, if_pos e]
    · rw [if_neg e, if_neg e]
      exact tabV_congr h fun a c q g1 g2 g3 g4 => bestK_eq k j a c q g2 (by omega) (by omega)
/-- the least cost -/
def Bst (b : Bool) (n : Nat) (lo hi p : Int) : Int := bestK b n (hi - lo).toNat lo hi p
theorem Bst_one {b : Bool} {n : Nat} {lo p : Int} : Bst b n lo lo p = 0 := by
  unfold Bst
  rw [show (lo - lo).toNat = 0 by omega]; rfl
theorem Bst_eq {b : Bool} {n : Nat} {lo hi p : Int} (h : lo < hi) : Bst b n lo hi p = tabV (Bst b n) b n lo hi p := by
  obtain ⟨k, hk⟩ : ∃ k : Nat, (hi - lo).toNat = k + 1 := ⟨(hi - lo).toNat - 1, by omega⟩
  show bestK b n (hi - lo).toNat lo hi p = _
  rw [hk]
  show (if lo = hi then 0 else tabV (bestK b n k) b n lo hi p) = _
  rw [if_neg (by omega)]
  exact tabV_congr (by omega) fun a c q g1 g2 g3 g4 => bestK_eq k _ a c q g2 (by omega) (by omega)
def nws (b : Bool) (n : Nat) (lo hi p : Int) : Option Int := newsK (Bst b n) b lo hi p n
section
variable {b : Bool} {n : Nat} {lo hi p : Int}
theorem nws_some {v : Int} (e : nws b n lo hi p = some v) : (∃ l : Int, 1 ≤ l ∧ l ≤ (n : Int) ∧ 1 < (cutsOf lo hi p l).length ∧ v = costOf b p l + worst (Bst b n) lo hi p l) ∧ ∀ l : Int, 1 ≤ l → l ≤ (n : Int) → 1 < (cutsOf lo hi p l).length → v ≤ costOf b p l + worst (Bst b n) lo hi p l := (newsK_spec n).2 v e
theorem nws_lo (h1 : 1 ≤ lo) (h : lo < hi) (h2 : hi ≤ n) : ∃ v, nws b n lo hi lo = some v := by
  cases e : nws b n lo hi lo with
  | some v => exact ⟨v, rfl⟩
  | none =>
    have := (newsK_spec n).1 e (lo + 1) (by omega) (by omega)
    rw [cuts_step h] at this
    simp at this
theorem tab_mem (h1 : 1 ≤ lo) (h : lo < hi) (h2 : hi ≤ n) : nws b n lo hi p = some (Bst b n lo hi p) ∨ ∃ (l v : Int), 1 ≤ l ∧ l ≤ (n : Int) ∧ l ≠ p ∧ nws b n lo hi l = some v ∧ Bst b n lo hi p = costOf b p l + v := by
  rw [Bst_eq h]
  unfold tabV
  refine (someK_mem n).mp (mnL_mem fun e => ?_)
  obtain ⟨v, hv⟩ := nws_lo (b := b) h1 h h2
  by_cases g : lo = p
  · subst g
    have := (someK_mem (b := b) (news := nws b n lo hi) (p := lo) (x := v) n).mpr (.inl hv)
    rw [e] at this; cases this
  · have := (someK_mem (b := b) (news := nws b n lo hi) (p := p) (x := costOf b p lo + v) n).mpr (.inr ⟨lo, v, h1, by omega, g, hv, rfl⟩)
    rw [e] at this; cases this
theorem tab_le (h : lo < hi) {v : Int} (e : nws b n lo hi p = some v) : Bst b n lo hi p ≤ v := by
  rw [Bst_eq h]
  exact mnL_le ((someK_mem n).mpr (.inl e))
theorem tab_le2 (h : lo < hi) {l v : Int} (h1 : 1 ≤ l) (h2 : l ≤ n) (e : nws b n lo hi l = some v) : Bst b n lo hi p ≤ costOf b p l + v := by
  by_cases g : l = p
  · subst g
    have := tab_le h e
    have := cost_nn (b := b) (p := l) (l := l)
    omega
  · rw [Bst_eq h]
    exact mnL_le ((someK_mem n).mpr (.inr ⟨l, v, h1, h2, g, e, rfl⟩))
/-- going elsewhere first -/
theorem Bst_tri (h1 : 1 ≤ lo) (h : lo ≤ hi) (h2 : hi ≤ n) {l : Int} (g1 : 1 ≤ l) (g2 : l ≤ n) : Bst b n lo hi p ≤ costOf b p l + Bst b n lo hi l := by
  by_cases e : lo = hi
  · subst e
    rw [Bst_one, Bst_one]
    have := cost_nn (b := b) (p := p) (l := l)
    omega
  · have hlt : lo < hi := by omega
    rcases tab_mem (b := b) (p := l) h1 hlt h2 with q | ⟨m, v, m1, m2, m3, q, eq⟩
    · exact tab_le2 hlt g1 g2 q
    · have := tab_le2 (b := b) (p := p) hlt m1 m2 q
      have := cost_tri (b := b) (p := p) (q := l) (l := m)
      omega
/-- no move is better -/
theorem Bst_le (h1 : 1 ≤ lo) (h : lo < hi) (h2 : hi ≤ n) {l : Int} (g1 : 1 ≤ l) (g2 : l ≤ n) : Bst b n lo hi p ≤ costOf b p l + worst (Bst b n) lo hi p l := by
  by_cases g : 1 < (cutsOf lo hi p l).length
  · cases e : nws b n lo hi p with
    | none => exact absurd g ((newsK_spec n).1 e l g1 g2)
    | some v =>
      have := (nws_some e).2 l g1 g2 g
      have := tab_le h e
      omega
  · have e := cuts_one (by omega) g
    unfold worst
    rw [e]
    show _ ≤ _ + Bst b n lo hi l
    exact Bst_tri h1 (by omega) h2 g1 g2
theorem Bst_nn : ∀ (k : Nat) {lo hi p : Int}, 1 ≤ lo → lo ≤ hi → hi ≤ n → hi - lo ≤ k → 0 ≤ Bst b n lo hi p
  | k, lo, hi, p, h1, h, h2, hk => by
    by_cases e : lo = hi
    · subst e; rw [Bst_one]; exact Int.le_refl _
    · have hlt : lo < hi := by omega
      have nn : ∀ {q v}, nws b n lo hi q = some v → 0 ≤ v := fun {q v} e => by
        obtain ⟨⟨l, l1, l2, l3, rfl⟩, _⟩ := nws_some e
        obtain ⟨c, hc, ec⟩ := worst_at (Bf := Bst b n) (p := q) (l := l) h
        rw [ec]
        obtain ⟨c1, c2, c3⟩ := cuts_sub h hc
        have c4 := cuts_lt h l3 hc
        obtain ⟨k, rfl⟩ : ∃ j, k = j + 1 := ⟨k - 1, by omega⟩
        have := Bst_nn k (lo := c.1) (hi := c.2) (p := l) (by omega) c2 (by omega) (by omega)
        have := cost_nn (b := b) (p := q) (l := l)
        omega
      rcases tab_mem (b := b) (p := p) h1 hlt h2 with q | ⟨m, v, m1, m2, m3, q, eq⟩
      · exact nn q
      · have := nn q
        have := cost_nn (b := b) (p := p) (l := m)
        omega
theorem Bst_nn' (h1 : 1 ≤ lo) (h : lo ≤ hi) (h2 : hi ≤ n) : 0 ≤ Bst b n lo hi p := Bst_nn (hi - lo).toNat h1 h h2 (by omega)
/-- less open, no more wanted -/
theorem Bst_mono : ∀ (k : Nat) {lo hi lo' hi' p : Int}, 1 ≤ lo → lo ≤ lo' → lo' ≤ hi' → hi' ≤ hi → hi ≤ n → hi - lo ≤ k → 1 ≤ p → p ≤ n → Bst b n lo' hi' p ≤ Bst b n lo hi p
  | k, lo, hi, lo', hi', p, h1, g1, g2, g3, h2, hk, p1, p2 => by
    by_cases e : lo' = hi'
    · subst e; rw [Bst_one]; exact Bst_nn' h1 (by omega) h2
    · have hlt : lo < hi := by omega
      have hlt' : lo' < hi' := by omega
      have N : ∀ {q v : Int}, 1 ≤ q → q ≤ (n : Int) → nws b n lo hi q = some v → Bst b n lo' hi' q ≤ v := fun {q v} q1 q2 e => by
        obtain ⟨⟨l, l1, l2, l3, rfl⟩, _⟩ := nws_some e
        obtain ⟨k, rfl⟩ : ∃ j, k = j + 1 := ⟨k - 1, by omega⟩
        have := Bst_le (b := b) (p := q) (by omega) hlt' (by omega) l1 l2
        obtain ⟨c, hc, ec⟩ := worst_at (Bf := Bst b n) (lo := lo') (hi := hi') (p := q) (l := l) g2
        obtain ⟨d, hd, d1, d2⟩ := cuts_in g1 g2 g3 hc
        obtain ⟨c1, c2, c3⟩ := cuts_sub g2 hc
        obtain ⟨e1, e2, e3⟩ := cuts_sub (by omega) hd
        have e4 := cuts_lt (by omega) l3 hd
        have := Bst_mono k (lo := d.1) (hi := d.2) (lo' := c.1) (hi' := c.2) (p := l) (by omega) d1 c2 d2 (by omega) (by omega) l1 l2
        have := worst_le (Bf := Bst b n) hd
        omega
      rcases tab_mem (b := b) (p := p) h1 hlt h2 with q | ⟨m, v, m1, m2, m3, q, eq⟩
      · exact N p1 p2 q
      · have := N m1 m2 q
        have := Bst_tri (b := b) (p := p) (lo := lo') (hi := hi') (by omega) g2 (by omega) m1 m2
        omega
theorem Bst_mono' {lo' hi' : Int} (h1 : 1 ≤ lo) (g1 : lo ≤ lo') (g2 : lo' ≤ hi') (g3 : hi' ≤ hi) (h2 : hi ≤ n) (p1 : 1 ≤ p) (p2 : p ≤ n) : Bst b n lo' hi' p ≤ Bst b n lo hi p := Bst_mono (hi - lo).toNat h1 g1 g2 g3 h2 (by omega) p1 p2
/-- some other place is as good as told -/
theorem Bst_at (h1 : 1 ≤ lo) (h : lo < hi) (h2 : hi ≤ n) (p1 : 1 ≤ p) (p2 : p ≤ n) : ∃ l : Int, 1 ≤ l ∧ l ≤ (n : Int) ∧ l ≠ p ∧ costOf b p l + worst (Bst b n) lo hi p l = Bst b n lo hi p := by
  rcases tab_mem (b := b) (p := p) h1 h h2 with q | ⟨m, v, m1, m2, m3, q, eq⟩
  · obtain ⟨⟨l, l1, l2, l3, e⟩, _⟩ := nws_some q
    refine ⟨l, l1, l2, fun z => ?_, e.symm⟩
    subst z
    rw [cuts_self] at l3
    simp at l3
  · refine ⟨m, m1, m2, m3, ?_⟩
    have a := Bst_le (b := b) (p := p) h1 h h2 m1 m2
    obtain ⟨c, hc, ec⟩ := worst_at (Bf := Bst b n) (p := p) (l := m) (Int.le_of_lt h)
    obtain ⟨c1, c2, c3⟩ := cuts_sub (Int.le_of_lt h) hc
    have := Bst_mono' (b := b) (n := n) (lo := lo) (hi := hi) (lo' := c.1) (hi' := c.2) (p := m) h1 c1 c2 c3 h2 m1 m2
    have := tab_le h q
    omega
theorem Bst_pos (h1 : 1 ≤ lo) (h : lo < hi) (h2 : hi ≤ n) (p1 : 1 ≤ p) (p2 : p ≤ n) : 1 ≤ Bst b n lo hi p := by
  obtain ⟨l, l1, l2, l3, e⟩ := Bst_at (b := b) h1 h h2 p1 p2
  have := cost_pos (b := b) l3
  obtain ⟨c, hc, ec⟩ := worst_at (Bf := Bst b n) (p := p) (l := l) (Int.le_of_lt h)
  obtain ⟨c1, c2, c3⟩ := cuts_sub (Int.le_of_lt h) hc
  have := Bst_nn' (b := b) (n := n) (lo := c.1) (hi := c.2) (p := l) (by omega) c2 (by omega)
  omega
/-- from the low end, step by step -/
theorem Bst_walk : ∀ (k : Nat) {lo hi : Int}, 1 ≤ lo → lo ≤ hi → hi ≤ n → hi - lo ≤ k → Bst b n lo hi lo ≤ hi - lo
  | k, lo, hi, h1, h, h2, hk => by
    by_cases e : lo = hi
    · subst e; rw [Bst_one]; omega
    · have hlt : lo < hi := by omega
      obtain ⟨k, rfl⟩ : ∃ j, k = j + 1 := ⟨k - 1, by omega⟩
      have a := Bst_le (b := b) (p := lo) h1 hlt h2 (l := lo + 1) (by omega) (by omega)
      have c : costOf b lo (lo + 1) = 1 := by unfold costOf; split <;> omega
      have w : worst (Bst b n) lo hi lo (lo + 1) = max 0 (Bst b n (lo + 1) hi (lo + 1)) := by
        unfold worst
        rw [cuts_step hlt]
        show max (Bst b n lo lo (lo + 1)) (Bst b n (lo + 1) hi (lo + 1)) = _
        rw [Bst_one]
      have := Bst_walk k (lo := lo + 1) (hi := hi) (by omega) (by omega) h2 (by omega)
      omega
theorem Bst_bound (h1 : 1 ≤ lo) (h : lo ≤ hi) (h2 : hi ≤ n) (p1 : 1 ≤ p) (p2 : p ≤ n) : Bst b n lo hi p ≤ n + (hi - lo) := by
  have a := Bst_tri (b := b) (p := p) h1 h h2 h1 (by omega)
  have c := Bst_walk (b := b) (hi - lo).toNat h1 h h2 (by omega)
  have : costOf b p lo ≤ n := by unfold costOf; split <;> omega
  omega
/-- steps are no fewer than stands -/
theorem stands_le_steps : ∀ (k : Nat) {lo hi p : Int}, 1 ≤ lo → lo ≤ hi → hi ≤ n → 1 ≤ p → p ≤ n → Bst true n lo hi p ≤ k → Bst false n lo hi p ≤ Bst true n lo hi p
  | k, lo, hi, p, h1, h, h2, p1, p2, hk => by
    by_cases e : lo = hi
    · subst e; rw [Bst_one, Bst_one]; exact Int.le_refl _
    · have hlt : lo < hi := by omega
      obtain ⟨l, l1, l2, l3, e⟩ := Bst_at (b := true) h1 hlt h2 p1 p2
      have cp := cost_pos (b := true) l3
      have a := Bst_le (b := false) (p := p) h1 hlt h2 l1 l2
      obtain ⟨c, hc, ec⟩ := worst_at (Bf := Bst false n) (p := p) (l := l) h
      obtain ⟨c1, c2, c3⟩ := cuts_sub h hc
      have w := worst_le (Bf := Bst true n) hc
      have nn := Bst_nn' (b := true) (n := n) (lo := c.1) (hi := c.2) (p := l) (by omega) c2 (by omega)
      obtain ⟨k, rfl⟩ : ∃ j, k = j + 1 := ⟨k - 1, by omega⟩
      have := stands_le_steps k (lo := c.1) (hi := c.2) (p := l) (by omega) c2 (by omega) l1 l2 (by omega)
      have : costOf false p l = 1 := rfl
      omega
theorem cuts_mirror {p l : Int} {m : Int} {c : Int × Int} (hc : c ∈ cutsOf lo hi p l) : (m - c.2, m - c.1) ∈ cutsOf (m - hi) (m - lo) (m - p) (m - l) := by
  unfold cutsOf at hc ⊢
  by_cases e : p = l
  · rw [if_pos e] at hc
    rw [if_pos (by omega), List.mem_singleton.mp hc]
    exact List.mem_singleton.mpr rfl
  · rw [if_neg e] at hc
    rw [if_neg (by omega)]
    simp only [List.mem_append, List.mem_ite_nil_right, List.mem_singleton] at hc ⊢
    rcases hc with ⟨hc, rfl⟩ | ⟨hc, rfl⟩ | ⟨hc, rfl⟩
    · refine .inr (.inr ⟨by omega, ?_⟩)
      simp only [Prod.mk.injEq, and_true]
      omega
    · refine .inr (.inl ⟨by omega, ?_⟩)
      simp only [Prod.mk.injEq]
      omega
    · refine .inl ⟨by omega, ?_⟩
      simp only [Prod.mk.injEq, true_and]
      omega
theorem Bst_mir : ∀ (k : Nat) {lo hi p : Int}, 1 ≤ lo → lo ≤ hi → hi ≤ n → 1 ≤ p → p ≤ n → Bst b n (n + 1 - hi) (n + 1 - lo) (n + 1 - p) ≤ k → Bst b n lo hi p ≤ Bst b n (n + 1 - hi) (n + 1 - lo) (n + 1 - p)
  | k, lo, hi, p, h1, h, h2, p1, p2, hk => by
    by_cases e : lo = hi
    · subst e; rw [Bst_one, Bst_one]; exact Int.le_refl _
    · have hlt : lo < hi := by omega
      obtain ⟨l', l1, l2, l3, e⟩ := Bst_at (b := b) (n := n) (lo := n + 1 - hi) (hi := n + 1 - lo) (p := n + 1 - p) (by omega) (by omega) (by omega) (by omega) (by omega)
      have cp := cost_pos (b := b) l3
      have a := Bst_le (b := b) (p := p) h1 hlt h2 (l := n + 1 - l') (by omega) (by omega)
      obtain ⟨c, hc, ec⟩ := worst_at (Bf := Bst b n) (p := p) (l := n + 1 - l') h
      obtain ⟨c1, c2, c3⟩ := cuts_sub h hc
      have hm := cuts_mirror (m := n + 1) hc
      rw [show (n : Int) + 1 - (n + 1 - l') = l' by omega] at hm
      have w := worst_le (Bf := Bst b n) hm
      dsimp only at w
      have nn := Bst_nn' (b := b) (n := n) (lo := n + 1 - c.2) (hi := n + 1 - c.1) (p := l') (by omega) (by omega) (by omega)
      have ce : costOf b (n + 1 - p) l' = costOf b p (n + 1 - l') := by unfold costOf; split <;> omega
      obtain ⟨k, rfl⟩ : ∃ j, k = j + 1 := ⟨k - 1, by omega⟩
      have := Bst_mir k (lo := c.1) (hi := c.2) (p := n + 1 - l') (by omega) c2 (by omega) (by omega) (by omega) (by rw [show (n : Int) + 1 - (n + 1 - l') = l' by omega]; omega)
      rw [show (n : Int) + 1 - (n + 1 - l') = l' by omega] at this
      omega
/-- seen in a mirror all is alike -/
theorem Bst_mirror (h1 : 1 ≤ lo) (h : lo ≤ hi) (h2 : hi ≤ n) (p1 : 1 ≤ p) (p2 : p ≤ n) : Bst b n (n + 1 - hi) (n + 1 - lo) (n + 1 - p) = Bst b n lo hi p := by
  have nn := Bst_nn' (b := b) (n := n) (lo := n + 1 - hi) (hi := n + 1 - lo) (p := n + 1 - p) (by omega) (by omega) (by omega)
  have nn2 := Bst_nn' (b := b) (n := n) (lo := lo) (hi := hi) (p := p) h1 h h2
  have a := Bst_mir (b := b) (n := n) (Bst b n (n + 1 - hi) (n + 1 - lo) (n + 1 - p)).toNat h1 h h2 p1 p2 (by omega)
  have c := Bst_mir (b := b) (n := n) (Bst b n lo hi p).toNat (lo := n + 1 - hi) (hi := n + 1 - lo) (p := n + 1 - p) (by omega) (by omega) (by omega) (by omega) (by omega) (by
    rw [show (n : Int) + 1 - (n + 1 - lo) = lo by omega, show (n : Int) + 1 - (n + 1 - hi) = hi by omega, show (n : Int) + 1 - (n + 1 - p) = p by omega]; omega)
  rw [show (n : Int) + 1 - (n + 1 - lo) = lo by omega, show (n : Int) + 1 - (n + 1 - hi) = hi by omega, show (n : Int) + 1 - (n + 1 - p) = p by omega] at c
  omega
end
/-- whether so many stands are enough: to be reckoned -/
def enB (n : Nat) : Nat → Int → Int → Int → Bool
  | 0, lo, hi, _ => decide (lo = hi)
  | k + 1, lo, hi, p => decide (lo = hi) || (List.range n).any fun (i : Nat) => (cutsOf lo hi p (1 + (i : Int))).all fun c => enB n k c.1 c.2 (1 + (i : Int))
theorem enB_le {n : Nat} : ∀ (k : Nat) {lo hi p : Int}, 1 ≤ lo → lo ≤ hi → hi ≤ n → 1 ≤ p → p ≤ n → enB n k lo hi p = true → Bst false n lo hi p ≤ k
  | 0, lo, hi, p, h1, h, h2, p1, p2, e => by
    have e := of_decide_eq_true e
    subst e
    rw [Bst_one]; exact Int.le_refl _
  | k + 1, lo, hi, p, h1, h, h2, p1, p2, e => by
    unfold enB at e
    rw [Bool.or_eq_true] at e
    rcases e with e | e
    · have e := of_decide_eq_true e
      subst e
      rw [Bst_one]; omega
    · obtain ⟨i, hi1, hi2⟩ := List.any_eq_true.mp e
      have hin := List.mem_range.mp hi1
      by_cases e : lo = hi
      · subst e; rw [Bst_one]; omega
      · have a := Bst_le (b := false) (p := p) h1 (by omega) h2 (l := 1 + (i : Int)) (by omega) (by omega)
        obtain ⟨c, hc, ec⟩ := worst_at (Bf := Bst false n) (p := p) (l := 1 + (i : Int)) h
        obtain ⟨c1, c2, c3⟩ := cuts_sub h hc
        have := enB_le k (lo := c.1) (hi := c.2) (p := 1 + (i : Int)) (by omega) c2 (by omega) (by omega) (by omega) (List.all_eq_true.mp hi2 c hc)
        have : costOf false p (1 + (i : Int)) = 1 := rfl
        omega
theorem le_enB {n : Nat} : ∀ (k : Nat) {lo hi p : Int}, 1 ≤ lo → lo ≤ hi → hi ≤ n → 1 ≤ p → p ≤ n → Bst false n lo hi p ≤ k → enB n k lo hi p = true
  | 0, lo, hi, p, h1, h, h2, p1, p2, e => by
    refine decide_eq_true ?_
    by_cases g : lo = hi
    · exact g
    · have := Bst_pos (b := false) h1 (by omega) h2 p1 p2
      omega
  | k + 1, lo, hi, p, h1, h, h2, p1, p2, e => by
    unfold enB
    rw [Bool.or_eq_true]
    by_cases g : lo = hi
    · exact .inl (decide_eq_true g)
    · right
      obtain ⟨l, l1, l2, l3, el⟩ := Bst_at (b := false) h1 (by omega) h2 p1 p2
      refine List.any_eq_true.mpr ⟨(l - 1).toNat, List.mem_range.mpr (by omega), List.all_eq_true.mpr fun c hc => ?_⟩
      rw [show (1 + ((l - 1).toNat : Int)) = l by omega] at hc ⊢
      obtain ⟨c1, c2, c3⟩ := cuts_sub h hc
      have w := worst_le (Bf := Bst false n) hc
      have : costOf false p l = 1 := rfl
      exact le_enB k (by omega) c2 (by omega) l1 l2 (by omega)
end Wm

/-! where an exception is handled: iterators that end, targets of several names, comprehensions over lists. -/
namespace Wm
open PySem PySem.Spec PyProof.Rows L2
/-! ### the end of an iterator -/
/-- the exception that is handled: of an own class, its context None -/
def HotX (A : Around) (x1 : Addr) (h : Heap) : Prop := A.handled = some (.ref x1) ∧ ∃ (o : Obj) (vs : Array Value), h.get? x1 = some o ∧ (∃ C, o.cls = .ref C) ∧ o.data = .fields vs ∧ vs[2]? = some .none
section
variable {prog : Program} {w : World} {A : Around} {E : Value → Shared → Prop} {s : Shared}
theorem HotX.ne {x1 it : Addr} {h : Heap} {o : Obj} {n : String} (k : HotX A x1 h) (e : h.get? it = some o) (c : o.cls = .type n) : it ≠ x1 := fun z => by
  obtain ⟨_, o', _, h1, ⟨C, hC⟩, _⟩ := k
  rw [z, h1] at e
  cases e
  rw [hC] at c; cases c
theorem next_list_endX {it l x1 : Addr} {i : Nat} {items} {Q : Option Value → Shared → Prop} (hot : HotX A x1 s.heap)
    (hit : s.heap.IsListIter it l i) (hl : s.heap.IsList l items) (hx : items[i]? = none)
    (hQ : ∀ h', (∀ b o, b ≠ it → s.heap.get? b = some o → h'.get? b = some o) → Q none { s with heap := h' }) : wpAny (model prog w) A (pyNext (.ref it)) Q E s := by
  obtain ⟨o, ho, hc, hd⟩ := id hit
  have hne := hot.ne ho hc
  obtain ⟨hh, o1, vs1, h1, _, d1, c1⟩ := hot
  obtain ⟨ol, hol, _, nl, hdl⟩ := hl
  unfold pyNext
  refine wpAny_bind (wpAny_attempt (wpAny_callSpecial?_slot (name := Str.ofString "__next__") hit.typeIs slot_listiter_next
    (wpAny_call_entry slot_listiter_next hit.typeIs entry_listiter_next ?_ (args_listiter_next _))))
  show wpAny _ _ (field (.ref it) 0 >>= _) _ _ s
  refine wpAny_bind (wpAny_field ho hd (x := .ref l) rfl ?_)
  show wpAny _ _ (if (Value.ref l == Value.none) = true then _ else _) _ _ s
  rw [if_neg (show ¬ ((Value.ref l == Value.none) = true) from Bool.false_ne_true)]
  show wpAny _ _ (field (.ref it) 1 >>= _) _ _ s
  refine wpAny_bind (wpAny_field ho hd (x := .int i 0) rfl ?_)
  show wpAny _ _ (seqItems? (.ref l) >>= _) _ _ s
  refine wpAny_bind (wpAny_seqItems hol hdl ?_)
  simp only [Int.toNat_natCast, hx]
  refine wpAny_bind (wpAny_rule (wpAny_bind (wpAny_setField ho hd (by simp) ?_)))
  show wpAny _ _ (newExc (.type "StopIteration") [] >>= _) _ _ _
  refine wpAny_bind ?_
  simp only [newExc, newTuple]
  refine wpAny_bind (wpAny_newObj_type ?_ (by size_fits))
  refine wpAny_bind (m := firstArgMember _ _) (wpAny_of_eq (a := Value.none) (by first | rfl | (simp only [firstArgMember]; rfl)) ?_)
  refine wpAny_newObj_type ?_ (by size_fits)
  have k1 : ∀ b u, b ≠ it → s.heap.get? b = some u → (s.heap.update it (Obj.mapFields (·.setIfInBounds 0 Value.none))).get? b = some u := fun b u n e => by
    rw [Heap.get?_update_other _ _ (Ne.symm n)]; exact e
  refine HotX.raiseNew_hot ⟨hh, o1, vs1, Heap.get?_push_of_some _ (Heap.get?_push_of_some _ (k1 x1 o1 (Ne.symm hne) h1)), d1, c1⟩ (Nat.ne_of_lt (Heap.lt_size (Heap.get?_push_of_some _ (k1 x1 o1 (Ne.symm hne) h1)))) (Heap.get?_push_size _ rfl) rfl (by first | (simp; done) | (simp; omega) | (simp only [Array.size_append]; simp; omega)) ?_
  refine wpAny_bind (wpAny_isInstance (T := "StopIteration") (b := true) ⟨_, Heap.get?_update_self _ (Heap.get?_push_size _ rfl) rfl, rfl⟩ isSubtype_stop ?_)
  refine wpAny_pure (hQ _ fun b u n e => ?_)
  rw [Heap.get?_update_other _ _ (Nat.ne_of_gt (Heap.lt_size (Heap.get?_push_of_some _ (k1 b u n e))))]
  exact Heap.get?_push_of_some _ (Heap.get?_push_of_some _ (k1 b u n e))
theorem next_tuple_endX {it t x1 : Addr} {i : Nat} {items} {Q : Option Value → Shared → Prop} (hot : HotX A x1 s.heap)
    (hit : IsTupIter s.heap it t i) (ht : IsTup s.heap t items) (hx : items[i]? = none)
    (hQ : ∀ h', (∀ b o, b ≠ it → s.heap.get? b = some o → h'.get? b = some o) → Q none { s with heap := h' }) : wpAny (model prog w) A (pyNext (.ref it)) Q E s := by
  obtain ⟨o, ho, hc, hd⟩ := id hit
  have hne := hot.ne ho hc
  obtain ⟨hh, o1, vs1, h1, _, d1, c1⟩ := hot
  obtain ⟨ol, hol, _, nl, hdl⟩ := ht
  unfold pyNext
  refine wpAny_bind (wpAny_attempt (wpAny_callSpecial?_slot (name := Str.ofString "__next__") hit.typeIs slot_tupleiter_next
    (wpAny_call_entry slot_tupleiter_next hit.typeIs entry_tupleiter_next ?_ (args_tupleiter_next _))))
  show wpAny _ _ (field (.ref it) 0 >>= _) _ _ s
  refine wpAny_bind (wpAny_field ho hd (x := .ref t) rfl ?_)
  show wpAny _ _ (if (Value.ref t == Value.none) = true then _ else _) _ _ s
  rw [if_neg (show ¬ ((Value.ref t == Value.none) = true) from Bool.false_ne_true)]
  show wpAny _ _ (field (.ref it) 1 >>= _) _ _ s
  refine wpAny_bind (wpAny_field ho hd (x := .int i 0) rfl ?_)
  show wpAny _ _ (seqItems? (.ref t) >>= _) _ _ s
  refine wpAny_bind (wpAny_seqItems hol hdl ?_)
  simp only [Int.toNat_natCast, hx]
  refine wpAny_bind (wpAny_rule (wpAny_bind (wpAny_setField ho hd (by simp) ?_)))
  show wpAny _ _ (newExc (.type "StopIteration") [] >>= _) _ _ _
  refine wpAny_bind ?_
  simp only [newExc, newTuple]
  refine wpAny_bind (wpAny_newObj_type ?_ (by size_fits))
  refine wpAny_bind (m := firstArgMember _ _) (wpAny_of_eq (a := Value.none) (by first | rfl | (simp only [firstArgMember]; rfl)) ?_)
  refine wpAny_newObj_type ?_ (by size_fits)
  have k1 : ∀ b u, b ≠ it → s.heap.get? b = some u → (s.heap.update it (Obj.mapFields (·.setIfInBounds 0 Value.none))).get? b = some u := fun b u n e => by
    rw [Heap.get?_update_other _ _ (Ne.symm n)]; exact e
  refine HotX.raiseNew_hot ⟨hh, o1, vs1, Heap.get?_push_of_some _ (Heap.get?_push_of_some _ (k1 x1 o1 (Ne.symm hne) h1)), d1, c1⟩ (Nat.ne_of_lt (Heap.lt_size (Heap.get?_push_of_some _ (k1 x1 o1 (Ne.symm hne) h1)))) (Heap.get?_push_size _ rfl) rfl (by first | (simp; done) | (simp; omega) | (simp only [Array.size_append]; simp; omega)) ?_
  refine wpAny_bind (wpAny_isInstance (T := "StopIteration") (b := true) ⟨_, Heap.get?_update_self _ (Heap.get?_push_size _ rfl) rfl, rfl⟩ isSubtype_stop ?_)
  refine wpAny_pure (hQ _ fun b u n e => ?_)
  rw [Heap.get?_update_other _ _ (Nat.ne_of_gt (Heap.lt_size (Heap.get?_push_of_some _ (k1 b u n e))))]
  exact Heap.get?_push_of_some _ (Heap.get?_push_of_some _ (k1 b u n e))
theorem unpackItems_tupleX {t x1 : Addr} {items : Array Value} {Q : List Value → Shared → Prop} (hot : HotX A x1 s.heap) (ht : IsTup s.heap t items)
    (hQ : ∀ h', Heap.ExtBut s.heap.objs.size s.heap h' → Q items.toList { s with heap := h' }) : wpAny (model prog w) A (unpackItems (.ref t) items.size none) Q E s := by
  have hlt : t ≠ s.heap.objs.size := by obtain ⟨o, ho, _⟩ := ht; exact Nat.ne_of_lt (Heap.lt_size ho)
  have hx1 : x1 ≠ s.heap.objs.size := by obtain ⟨_, o, _, ho, _⟩ := hot; exact Nat.ne_of_lt (Heap.lt_size ho)
  unfold unpackItems
  refine wpAny_bind ?_
  · unfold notIterableAtAll
    refine wpAny_bind (wpAny_specialOf ht.typeIs slot_tuple_iter.lookup ?_)
    refine wpAny_pure ?_
    simp only [Bool.false_eq_true, if_false]
    refine wpAny_bind (wpAny_holding (iter_tuple ht ?_))
    refine wpAny_bind (wpAny_holding (draw_tuple hlt items.size 0 _ _ ⟨_, Heap.get?_push_size _ rfl, rfl, rfl⟩ (ht.push _) (by omega) fun h₁ hit₁ hs₁ => ?_))
    have hall : List.take items.size (List.drop 0 items.toList) = items.toList := by
      rw [List.drop_zero]; exact List.take_of_length_le (by simp)
    rw [hall]
    rw [if_neg (by simp)]
    have ht₁ : IsTup h₁ t items := (ht.push _).extBut hs₁.extBut hlt
    have hot₁ : HotX A x1 h₁ := by
      obtain ⟨hh, o, vs, ho, r⟩ := hot
      exact ⟨hh, o, vs, hs₁.extBut x1 o hx1 (Heap.get?_push_of_some _ ho), r⟩
    refine wpAny_bind (wpAny_holding (next_tuple_endX hot₁ hit₁ ht₁ (by simp) fun h₂ he₂ => ?_))
    simp only [Option.isSome_none, Bool.false_eq_true, if_false]
    refine wpAny_pure (hQ h₂ fun b o hb e => he₂ b o hb (hs₁.extBut b o hb (Heap.get?_push_of_some _ e)))
theorem assign_Tuple_tupleX {env : Env} {elts : List Expr} {x1 : Addr} {k} {pos : Pos} {t : Addr} {items : Array Value} {Q : Unit → Shared → Prop} (hot : HotX A x1 s.heap) (ht : IsTup s.heap t items)
    (hn : (assignEach elts env).length = items.size) (hstar : (assignEach elts env).findIdx? (·.1) = none)
    (h : ∀ h', Heap.ExtBut s.heap.objs.size s.heap h' → wpAny (model prog w) A (assignInOrder ((assignEach elts env).map (·.2)) items.toList) Q E { s with heap := h' }) :
    wpAny (model prog w) A (assign (.Tuple elts k pos) env (.ref t)) Q E s := by
  rw [assign_Tuple]
  refine wpAny_bind (wpAny_standAt ?_)
  unfold unpack
  rw [hn, hstar]
  exact wpAny_bind (wpAny_holding (unpackItems_tupleX hot ht h))
end
/-- at every state of X the exception at x1 is handled -/
def HotB (X : Cx) (x1 : Addr) : Prop := ∀ pins σ H s, Inv X pins σ H s → HotX X.A x1 s.heap
/-- .. as an except suite has it -/
structure HotK (X : Cx) (x1 : Addr) (oe : Obj) : Prop where
  hd : X.A.handled = some (.ref x1)
  cls : ∃ C, oe.cls = .ref C
  dat : ∃ vs : Array Value, oe.data = .fields vs ∧ vs[2]? = some .none
  pin : (x1, oe) ∈ X.pn
theorem HotK.hot {X : Cx} {x1 : Addr} {oe : Obj} (k : HotK X x1 oe) {h : Heap} (e : h.get? x1 = some oe) : HotX X.A x1 h := by
  obtain ⟨vs, d1, d2⟩ := k.dat
  exact ⟨k.hd, oe, vs, e, k.cls, d1, d2⟩
theorem HotK.at {X : Cx} {x1 : Addr} {oe : Obj} (k : HotK X x1 oe) {pins : List (Addr × Obj)} {σ : L2.St} {H : Hp} {s : Shared} (I : Inv X pins σ H s) : s.heap.get? x1 = some oe ∧ H x1 = none ∧ x1 ∉ frs X.stack := by
  obtain ⟨h1, h2, h3, h4, _⟩ := I.pin (x1, oe) (List.mem_append_left _ k.pin)
  refine ⟨h1, h2, fun z => ?_⟩
  rcases List.mem_cons.mp (I.stkSub _ z) with e | e
  · exact h3 e
  · exact h4 e
theorem HotK.b {X : Cx} {x1 : Addr} {oe : Obj} (k : HotK X x1 oe) : HotB X x1 := fun _ _ _ _ I => k.hot (k.at I).1
theorem hotK_suite {X : Cx} {a C : Addr} {oe : Obj} {d : Option Addr} {pn : List (Addr × Obj)} (hz : L2N.Zn (.ref C) d oe) (hf : ∃ vs, oe.data = .fields vs) : HotK (X.suite a ((a, oe) :: pn)) a oe := by
  obtain ⟨vs, hv⟩ := hf
  exact ⟨rfl, ⟨C, hz.1⟩, ⟨vs, hv, hz.2.2 vs hv⟩, List.mem_cons_self⟩
section
variable {X : Cx}
theorem pg_tupX {x1 : Addr} {es : List Expr} {k : Nat} {pos : Pos} {t : TGs} {n : Nat} (hot : HotB X x1) (h : PGs X es t)
    (hn : (assignEach es X.env).length = n := by rfl) (hst : (assignEach es X.env).findIdx? (·.1) = none := by rfl) : PG X (.Tuple es k pos) (gTup X.K n t) := by
  refine ⟨fun pins s σ H v u Q I r hw => ?_⟩
  obtain ⟨a, xs, e1, hq, hl, hw⟩ := hw
  subst e1
  cases r
  obtain ⟨its, rv, ht, hz⟩ := I.tuple hq
  refine assign_Tuple_tupleX (hot _ _ _ _ I) ht (by simp [hn, ← hl, rv.length]) hst fun h' hx => ?_
  have I1 : Inv X pins σ H { s with heap := h' } := I.kept (t' := s.toks) fun b o e => hx b o (Nat.ne_of_lt (Heap.lt_size e)) e
  exact h.run pins _ σ H xs _ Q I1 (by simpa using rv) hw
end
/-! ### walks -/
structure TurnX (P : Program) (w : World) (K : PySem.W.Frag) (tg : Expr) (J : It) (fp : List Addr) (it : Addr) (tn : Nat → Heap → Prop) : Prop where
  mem : it ∈ fp
  obj : ∀ i h, tn i h → ∀ b ∈ fp, ∃ o, h.get? b = some o ∧ ∀ v, o.data ≠ .cell v
  keep : ∀ i h h', tn i h → (∀ b ∈ fp, ∀ o, h.get? b = some o → h'.get? b = some o) → tn i h'
  item : ∀ (X : Cx), X.prog = P → X.w = w → X.K = K → ∀ {x1 : Addr} (i : Nat) (pins : List (Addr × Obj)) (s : Shared) (σ : L2.St) (H : Hp) (E : Value → Shared → Prop), HotX X.A x1 s.heap → Inv X pins σ H s → (∀ b ∈ fp, FpOk X pins H b) → tn i s.heap → J.go i H →
    wpAny (model P w) X.A (pyNext (.ref it)) (fun r s1 => ∃ u, r = some u ∧
      wpAny (model P w) X.A (letOwnedTupleGo tg (.ref it) u) (fun _ s2 => ∃ x H', Inv X pins σ H' s2 ∧ RelV x u ∧ J.yld i H x H' ∧ tn (i + 1) s2.heap ∧ ∀ b ∈ fp, H' b = none) E s1) E s
  done : ∀ (X : Cx), X.prog = P → X.w = w → X.K = K → ∀ {x1 : Addr} (i : Nat) (pins : List (Addr × Obj)) (s : Shared) (σ : L2.St) (H : Hp) (E : Value → Shared → Prop), HotX X.A x1 s.heap → Inv X pins σ H s → (∀ b ∈ fp, FpOk X pins H b) → tn i s.heap → J.stop i H →
    wpAny (model P w) X.A (pyNext (.ref it)) (fun r s1 => r = none ∧ Inv X pins σ H s1) E s
  self : ∀ (A : Around) (i : Nat) (s : Shared) (Q : Value → Shared → Prop) (E : Value → Shared → Prop), tn i s.heap → Q (.ref it) s → wpAny (model P w) A (pyIter (.ref it)) Q E s
theorem turn_listX {P : Program} {w : World} {K : PySem.W.Frag} {tg : Expr} (a it : Addr) : TurnX P w K tg (Itl K a) [it] it (fun i h => h.IsListIter it a i) where
  mem := by simp
  obj := fun i h st b hb => by
    have e : b = it := by simpa using hb
    subst e
    obtain ⟨o, e, c, d⟩ := st
    exact ⟨o, e, fun v z => by rw [d] at z; cases z⟩
  keep := fun i h h' st k => st.at fun o e => k it (by simp) o e
  item := by
    intro X hP hw hK x1 i pins s σ H E hot I hf st hg
    subst hP hw hK
    obtain ⟨xs, x, hq, hx⟩ := hg
    obtain ⟨its, rv, p, hz⟩ := I.list hq
    obtain ⟨u, hu, ru⟩ := rv.get hx
    obtain ⟨f0, f1, f2, f3, f4, f5⟩ := hf it (by simp)
    refine wpAny_pyNext_list_item st p.isList (x := u) (by simpa using hu) fun h' st' sb => ?_
    have I1 : Inv X pins σ H { s with heap := h' } := I.turned (t' := s.toks) (fun b o hb e => (sb.2 b hb).trans e) f0 f1 f3 f4 f5
    obtain ⟨o, e, c, d⟩ := id st'
    exact ⟨u, rfl, go_of (s := { s with heap := h' }) e c d (by decide) ⟨x, H, I1, ru, ⟨rfl, fun ys hy => by rw [I.list_inj hy hq]; exact hx⟩, st', fun b hb => (hf b hb).1⟩⟩
  done := by
    intro X hP hw hK x1 i pins s σ H E hot I hf st hg
    subst hP hw hK
    obtain ⟨xs, hq, hx⟩ := hg
    obtain ⟨its, rv, p, hz⟩ := I.list hq
    obtain ⟨f0, f1, f2, f3, f4, f5⟩ := hf it (by simp)
    have hl := rv.length
    exact next_list_endX hot st p.isList (by simp; omega) fun h' eb => ⟨rfl, I.turned (t' := s.toks) (fun b o hb e => eb b o hb e) f0 f1 f3 f4 f5⟩
  self := fun _ _ _ _ _ st h => wpAny_pyIter_listiter st h
def PIEX (X : Cx) (pins : List (Addr × Obj)) (σ : L2.St) (tg : Expr) (R : It → Hp → Prop) (itv : Value) (s2 : Shared) : Prop :=
  ∃ (it : Addr) (fp : List Addr) (tn : Nat → Heap → Prop) (J : It) (H' : Hp), itv = .ref it ∧ Inv X pins σ H' s2 ∧ TurnX X.prog X.w X.K tg J fp it tn ∧ tn 0 s2.heap ∧ (∀ b ∈ fp, FpOk X pins H' b) ∧ R J H'
structure PIX (X : Cx) (tg iter : Expr) (wi : TI) : Prop where
  run : ∀ (pins : List (Addr × Obj)) (s : Shared) (σ : L2.St) (H : Hp) (R : It → Hp → Prop), Inv X pins σ H s → wi σ H R →
    wpAny (model X.prog X.w) X.A (eval iter X.env) (fun v s1 => wpAny (model X.prog X.w) X.A (pyIter v) (PIEX X pins σ tg R) X.xe s1) X.xe s
section
variable {X : Cx} {tg : Expr}
theorem pi_listX {l : Expr} {tl : TE} (hl : PE X l tl) : PIX X tg l (iList X.K tl) := by
  refine ⟨fun pins s σ H R I h => ?_⟩
  refine thn (hl.run pins s σ H _ I h) fun v s1 ⟨x, H1, I1, r1, q1⟩ => ?_
  obtain ⟨a, e, ⟨xs, hq⟩, q⟩ := q1
  subst e
  cases r1
  obtain ⟨its, rv, p, hz⟩ := I1.list hq
  refine wpAny_pyIter_list p.isList ?_
  refine ⟨s1.heap.objs.size, [s1.heap.objs.size], _, _, H1, rfl, I1.kept (t' := s1.toks) fun b o e => Heap.get?_push_of_some _ e, turn_listX a _, ⟨_, Heap.get?_push_size _ rfl, rfl, rfl⟩, fun b hb => ?_, q⟩
  have e : b = s1.heap.objs.size := by simpa using hb
  subst e
  exact I1.fpOk (Nat.le_refl _) (I1.hok.fresh (Nat.le_refl _))
theorem lc_coreX {x1 : Addr} {oe : Obj} {pins : List (Addr × Obj)} {s : Shared} {σ : L2.St} {H : Hp} {Q : VK} {elt tg iter : Expr} {ifs : List Expr} {scope : Scope} {own : List (Str × Nat)} {pos pos' : Pos} {wi : TI} {g : TG} {tt : TT} {te : TE} {use : Option (Value → Sem Unit)} {Qf : Value → Shared → Prop}
    (hk : HotK X x1 oe) (hN : X.N.Nodup) (I : Inv X pins σ H s) (hi : PIX X tg iter wi) (ok : BlkOk X.N X.env.scope scope own)
    (hg : ∀ (s : Shared) (H : Hp) (C : Addr) (cl : List (Str × Addr)) (fp : List Addr), HotB (X.blk s H scope (compEnvC scope cl C X.env) fp) x1 → PG (X.blk s H scope (compEnvC scope cl C X.env) fp) tg g) (ht : ∀ (s : Shared) (H : Hp) (C : Addr) (cl : List (Str × Addr)) (fp : List Addr), PTs (X.blk s H scope (compEnvC scope cl C X.env) fp) ifs tt)
    (he : ∀ (s : Shared) (H : Hp) (C : Addr) (cl : List (Str × Addr)) (fp : List Addr), PE (X.blk s H scope (compEnvC scope cl C X.env) fp) elt te) (hs : ∀ x, foldedSetIterable iter X.env x = pure x)
    (h : tLc wi g tt te (own.map (·.2)) σ H Q)
    (hRR : ∀ D C s' m H', Inv X pins σ H' s' → Q (.ref D) H' → s'.heap.Ns C m → FpOk X pins H' C → compPost (model X.prog X.w) X.A X.xe use Qf (.ref D) C (.ok .next) s') :
    wpAny (model X.prog X.w) X.A (comprehension (.ListComp elt [⟨tg, iter, ifs, 0⟩] scope pos) scope X.env pos' (newList []) false (eval iter X.env) use) Qf X.xe s := by
  have hfree : ∀ y ∈ scope.names, y.2 = .free → ∃ c, X.env.cells.lookup y.1 = some c := fun y hy e => by
    rcases ok.free y hy e with k | k
    · exact I.ok.has _ (.inl k)
    · exact I.ok.has _ (.inr k)
  refine wpAny_comprehension_free (use := use) rfl hs (closure_ok hfree) ok.kind (fun y hy e => by rw [ok.uniq y hy, e])
    (thn (hi.run pins s σ H _ I h) fun xv s1 hx => thn hx fun itv s2 h2 => ?_)
  obtain ⟨it, fp, tn, J, H2, e, I2, T, st2, f2, q⟩ := h2
  subst e
  refine wpAny_newObj_type (newEnv_comp ?_) (by show 0 ≤ sizeLine; decide)
  generalize hD : s2.heap.objs.size = D
  have hDn : H2 D = none := I2.hok.fresh (Nat.le_of_eq hD)
  obtain ⟨W, ⟨m0, w0⟩, turn⟩ := q D hDn
  -- the new list
  generalize hs3 : ({ s2 with heap := s2.heap.push { cls := .type "list", data := .seq ([] : List Value).toArray } } : Shared) = s3
  have I3 : Inv X pins σ (upd H2 D (.lst [])) s3 := by
    rw [← hs3]
    refine I2.laid (t' := s2.toks) (fun b o e => Heap.get?_push_of_some _ e) (Nat.le_of_eq hD) ⟨Nat.zero_le _, [], 0, .nil, ?_⟩
    rw [← hD]
    exact Heap.get?_push_size _ rfl
  have h3 : s3.heap = s2.heap.push { cls := .type "list", data := .seq ([] : List Value).toArray } := by rw [← hs3]
  have sz : ∀ b ∈ fp, b < s2.heap.objs.size := fun b hb => by
    obtain ⟨o, e, _⟩ := T.obj _ _ st2 b hb
    exact Heap.lt_size e
  have f3 : ∀ b ∈ fp, FpOk X pins (upd H2 D (.lst [])) b ∧ b < s3.heap.objs.size := fun b hb => by
    have hlt := sz b hb
    refine ⟨⟨?_, (f2 b hb).2⟩, by rw [h3, Heap.size_push]; exact Nat.lt_succ_of_lt hlt⟩
    rw [upd_ne (by rw [← hD]; exact Nat.ne_of_lt hlt)]
    exact (f2 b hb).1
  have st3 : tn 0 s3.heap := T.keep _ _ _ st2 fun b _ o e => by rw [h3]; exact Heap.get?_push_of_some _ e
  have I4 := block_start I3 ok hN f3
  have hx3 := hk.at I3
  have hotB : HotB (X.blk s3 (upd H2 D (.lst [])) scope (compEnvC scope (cellsFrom (s3.heap.objs.size + 1) scope.names (cloFrom X.env.cells scope.names [])) s3.heap.objs.size X.env) fp) x1 := fun pins' σ' H' s' I' => by
    have e := I'.base.keep x1 oe hx3.1 hx3.2.1 hx3.2.2 (fun z => (f2 x1 z).2.2.2.2.2 (x1, oe) (List.mem_append_left _ hk.pin) rfl)
    exact hk.hot e
  have pg := hg s3 (upd H2 D (.lst [])) s3.heap.objs.size (cellsFrom (s3.heap.objs.size + 1) scope.names (cloFrom X.env.cells scope.names [])) fp hotB
  have pt := ht s3 (upd H2 D (.lst [])) s3.heap.objs.size (cellsFrom (s3.heap.objs.size + 1) scope.names (cloFrom X.env.cells scope.names [])) fp
  have pe := he s3 (upd H2 D (.lst [])) s3.heap.objs.size (cellsFrom (s3.heap.objs.size + 1) scope.names (cloFrom X.env.cells scope.names [])) fp
  show codeAny _ _ (.compStart (.ListComp elt [⟨tg, iter, ifs, 0⟩] scope pos) 0 (.ref it) (.ref D) (compEnvC scope (cellsFrom (s3.heap.objs.size + 1) scope.names (cloFrom X.env.cells scope.names [])) s3.heap.objs.size X.env)) (compPost (model X.prog X.w) X.A X.xe use Qf (.ref D) s3.heap.objs.size) { s3 with heap := pushCells (s3.heap.push { cls := .type "dict", data := .dict #[] }) scope.names }
  have nfp : ∀ b ∈ fp, (upd H2 D (.lst [])) b = none := fun b hb => (f3 b hb).1.1
  generalize hce : compEnvC scope (cellsFrom (s3.heap.objs.size + 1) scope.names (cloFrom X.env.cells scope.names [])) s3.heap.objs.size X.env = ce at I4 pg pt pe hotB ⊢
  have cL : ce.locals = s3.heap.objs.size := by subst hce; rfl
  generalize hH3 : upd H2 D (.lst []) = H3 at I3 I4 pg pt pe w0 nfp f3 hx3 hotB
  generalize hs4 : ({ s3 with heap := pushCells (s3.heap.push { cls := .type "dict", data := .dict #[] }) scope.names } : Shared) = s4 at I4 ⊢
  have st4 : tn 0 s4.heap := T.keep _ _ _ st3 fun b _ o e => by rw [← hs4]; exact pushCells_keeps _ _ _ _ (Heap.get?_push_of_some _ e)
  have stat : ∀ {σ' : L2.St} {H' : Hp} {s' : Shared}, Inv (X.blk s3 H3 scope ce fp) [] σ' H' s' → (∀ b ∈ fp, H' b = none) → ∀ b ∈ fp, FpOk (X.blk s3 H3 scope ce fp) [] H' b := fun {σ' H' s'} I' hn b hb =>
    ⟨hn b hb, (I'.ok.exf b hb).1, I'.ok.exfs b hb, .inl hb, fun x c e => (I'.ok.exf b hb).2 x c e, fun p hp => absurd (show p ∈ ([] : List (Addr × Obj)) ++ [] from hp) (by simp)⟩
  have loop : codeAny (model X.prog X.w) X.A (.compLoop (.ListComp elt [⟨tg, iter, ifs, 0⟩] scope pos) 0 (.ref it) (.ref D) ce) (compPost (model X.prog X.w) X.A X.xe use Qf (.ref D) s3.heap.objs.size) s4 := by
    refine compLoop_any (fun n s' => ∃ i H', Inv (X.blk s3 H3 scope ce fp) [] (wipe σ (own.map (·.2))) H' s' ∧ tn i s'.heap ∧ (∀ b ∈ fp, H' b = none) ∧ W i n H') ?_ m0 ⟨0, H3, I4, st4, nfp, w0⟩
    rintro n s5 ⟨i, H5, I5, st5, n5, w5⟩
    rcases turn i n H5 w5 with ⟨stop, qq⟩ | ⟨go, Nx, hNx, step⟩
    · have td := T.done (X.blk s3 H3 scope ce fp) rfl rfl rfl i [] s5 _ H5 (fun _ _ => False) (hotB _ _ _ _ I5) I5 (stat I5 n5) st5 stop
      refine thnF td fun r s6 ⟨hr, I6⟩ => ?_
      subst hr
      -- back in the def's context
      have I7 : Inv X pins σ H5 s6 := I3.call' (ch := fp) I6.os I6.base I6.hok I6.bare fun b hb => ⟨(f3 b hb).1.2.2.2.1, (f3 b hb).1.2.1, (f3 b hb).1.2.2.2.2.1, (f3 b hb).1.2.2.2.2.2⟩
      have nC : H5 s3.heap.objs.size = none := by
        have z : H5 ce.locals = none := I6.free
        rw [cL] at z
        exact z
      obtain ⟨m, hn, _⟩ := I6.loc
      have hn : s6.heap.Ns ce.locals m := hn
      rw [cL] at hn
      exact hRR D s3.heap.objs.size s6 m H5 I7 qq hn (I3.fpOk (Nat.le_refl _) nC)
    · have ti := T.item (X.blk s3 H3 scope ce fp) rfl rfl rfl i [] s5 _ H5 (fun _ _ => False) (hotB _ _ _ _ I5) I5 (stat I5 n5) st5 go
      refine thnF ti fun r s6 ⟨u, hr, h6⟩ => ?_
      subst hr
      refine thnF h6 fun _ s7 ⟨x, H7, I7, r7, y7, st7, n7⟩ => ?_
      have I7' := I7.pinned (stat I7 n7) (T.obj _ _ st7)
      refine thnF (pg.run _ s7 _ H7 x u _ I7' r7 (step x H7 y7)) fun _ s8 ⟨σ8, H8, I8, hw8, q8⟩ => ?_
      refine thnF (pt.run _ s8 σ8 H8 _ I8 q8) fun b s9 ⟨H9, I9, q9⟩ => ?_
      -- the turn's end
      have fin : ∀ {s' : Shared} {H' : Hp}, Inv (X.blk s3 H3 scope ce fp) ([] ++ pinsAt fp s7.heap) σ8 H' s' → Nx H' → ∃ m, m < n ∧ ∃ i H', Inv (X.blk s3 H3 scope ce fp) [] (wipe σ (own.map (·.2))) H' s' ∧ tn i s'.heap ∧ (∀ b ∈ fp, H' b = none) ∧ W i m H' := fun {s' H'} I' nx => by
        obtain ⟨m', hm, w'⟩ := hNx H' nx
        have pin' : ∀ b ∈ fp, ∀ o, s7.heap.get? b = some o → s'.heap.get? b = some o ∧ H' b = none := fun b hb o e =>
          let z := I'.pin (b, o) (List.mem_append_right _ (List.mem_append_right _ (mem_pinsAt hb e)))
          ⟨z.1, z.2.1⟩
        have hl : (wipe σ (own.map (·.2))).length = σ8.length := by rw [← hw8, wipe_length]
        refine ⟨m', hm, i + 1, H', (I'.unpinned (pins := [])).weak hl (fun j v e => ?_), T.keep _ _ _ st7 fun b hb o e => (pin' b hb o e).1, fun b hb => ?_, w'⟩
        · rw [← hw8] at e
          exact (wipe_some e).1
        · obtain ⟨o, e, _⟩ := T.obj _ _ st7 b hb
          exact (pin' b hb o e).2
      cases b with
      | false =>
        simp only [Bool.false_eq_true, if_false] at q9 ⊢
        exact fin I9 q9
      | true =>
        simp only [if_true] at q9 ⊢
        refine thnF (pe.run _ s9 σ8 H9 _ I9 q9) fun z s10 ⟨yv, H10, I10, r10, acc, hD10, hz10, nx⟩ => ?_
        exact app_ok (X := X.blk s3 H3 scope ce fp) I10 hD10 hz10 r10 fun s11 I11 => fin I11 nx
  exact codeAny_compStart_list loop (T.self X.A 0 _ _ _ st4 loop)
/-- as a value -/
theorem pe_lcX {x1 : Addr} {oe : Obj} {elt tg iter : Expr} {ifs : List Expr} {scope : Scope} {own : List (Str × Nat)} {pos : Pos} {wi : TI} {g : TG} {tt : TT} {te : TE} (hk : HotK X x1 oe) (hN : X.N.Nodup) (hi : PIX X tg iter wi) (ok : BlkOk X.N X.env.scope scope own)
    (hg : ∀ (s : Shared) (H : Hp) (C : Addr) (cl : List (Str × Addr)) (fp : List Addr), HotB (X.blk s H scope (compEnvC scope cl C X.env) fp) x1 → PG (X.blk s H scope (compEnvC scope cl C X.env) fp) tg g) (ht : ∀ (s : Shared) (H : Hp) (C : Addr) (cl : List (Str × Addr)) (fp : List Addr), PTs (X.blk s H scope (compEnvC scope cl C X.env) fp) ifs tt)
    (he : ∀ (s : Shared) (H : Hp) (C : Addr) (cl : List (Str × Addr)) (fp : List Addr), PE (X.blk s H scope (compEnvC scope cl C X.env) fp) elt te) (hs : ∀ x, foldedSetIterable iter X.env x = pure x := by intro _; rfl) :
    PE X (.ListComp elt [⟨tg, iter, ifs, 0⟩] scope pos) (tLc wi g tt te (own.map (·.2))) := by
  refine ⟨fun pins s σ H Q I h => ?_⟩
  rw [eval_ListComp]
  refine lc_coreX hk hN I hi ok hg ht he hs h fun D C s' m H' I' q hn f => ⟨m, hn, fun h'' sb => ?_⟩
  obtain ⟨f0, f1, f2, f3, f4, f5⟩ := f
  exact ⟨.ref D, H', I'.turned (t' := s'.toks) (fun b o hb e => (sb.2 b hb).trans e) f0 f1 f3 f4 f5, rfl, q⟩
end
end Wm

/-! several clauses, each with a name; defs that raise, told over data. -/
namespace L2N
open PySem PySem.Spec PyProof.Rows L2
/-- behind a suite its name is gone -/
abbrev endsN (D : Ends) (i : Nat) : Ends := { nx := fun σ' H' => D.nx (σ'.set i none) H', rt := D.rt, bk := fun σ' H' => D.bk (σ'.set i none) H', ct := fun σ' H' => D.ct (σ'.set i none) H' }
/-- what the clauses wish of an exception of the body, one after the other; slot i is the name's -/
def wManyN (K : PySem.W.Frag) (i : Nat) (Wout : WX) (D : Ends) : List (Value × (Addr → Value → Option Addr → TS)) → WX
  | [] => Wout
  | (c, ts) :: r => fun cls d σ H => ∃ b, PySem.W.exmOne K cls c = some b ∧ (b = true → ∀ a, H a = none → ts a cls d (endsN D i) (σ.set i (some (.ref a))) H) ∧ (b = false → wManyN K i Wout D r cls d σ H)
inductive HdsN (X : Cx) (n : Str) : List ExceptHandler → List (Value × (Addr → Value → Option Addr → TS)) → Prop
  | nil : HdsN X n [] []
  | cons {x : Str} {c : Value} {ts : Addr → Value → Option Addr → TS} {b₀ : Stmt} {suite : List Stmt} {np pos' : Pos} {hds : List ExceptHandler} {l : List (Value × (Addr → Value → Option Addr → TS))} (hc : Names X x c)
      (hsu : ∀ (a : Addr) (oe : Obj) (cls : Value) (d : Option Addr) (pn : List (Addr × Obj)), Zn cls d oe → (∃ vs, oe.data = .fields vs) → PSs (X.suite a ((a, oe) :: pn)) (b₀ :: suite) (ts a cls d)) (r : HdsN X n hds l) :
      HdsN X n (.ExceptHandler (some (.Name x np)) (some n) (b₀ :: suite) pos' :: hds) ((c, ts) :: l)
section
variable {X : Cx} {n : Str} {i : Nat} {body : List Stmt} {h₀ : ExceptHandler} {hds : List ExceptHandler} {l : List (Value × (Addr → Value → Option Addr → TS))} {pos : Pos} {tb : WX → TS} {Wout : WX}
theorem ps_try_manyN (hs : X.stack = X.env :: X.outer) (hf : X.env.frame = some X.env.locals) (hN : X.N.Nodup) (hi : X.N[i]? = some n) (hln : X.env.kindOf n = some .local) (tk : Takes X Wout)
    (hb : ∀ (W : WX) (pn : List (Addr × Obj)) (xe : Value → Shared → Prop), Takes (X.tr pn xe) W → PassesOwn (model X.prog X.w) X.A X.env xe → PSs (X.tr pn xe) body (tb W))
    (hh : HdsN X n (h₀ :: hds) l) : PS X (.Try body (h₀ :: hds) [] [] pos) (fun D σ H => tb (wManyN X.K i Wout D l) D σ H) := by
  refine ⟨fun pins s σ H D I h => ?_⟩
  have ok := I.ok
  have hfr : X.A.frames = some (X.env :: X.outer) := by rw [ok.frames, hs]
  have hloc : Loc X.env.scope n := .inl hln
  refine wpAny_Try_except ?_
  refine wpAny_mono ((hb (wManyN X.K i Wout D l) (X.pn ++ pins) (fun e s₁ => wpAny (model X.prog X.w) X.A (noteFrame e X.env) (fun _ s₂ => wpAny (model X.prog X.w) X.A (setFlight e none) (fun _ s₃ =>
    wpAny (model X.prog X.w) X.A (handleBy e X.env (h₀ :: hds)) (SP X pins D) X.xe s₃) X.xe s₂) X.xe s₁) (fun u s' xx => ?_) PassesOwn.looking).run [] s σ H D (I.toTry _) h) (fun f s1 hsp => ?_) (fun e s1 he => he)
  · -- the catch
    obtain ⟨a, B, sI, pins', σ', H', cls, d, rfl, J', nb, up, sky, na, os, ag, w⟩ := xx
    have J : Inv X pins σ' H' sI := J'.ofTry ok
    have sky' : Sky B (X.env :: X.outer) a (Zn cls d) X.env.locals s'.heap := by rw [← hs]; exact sky
    show wpAny (model X.prog X.w) X.A (noteFrame (.ref a) X.env) _ _ _
    refine Sky.land Zn.steady hfr hf sky' fun h3 fl3 up3 => ?_
    have J3 : Inv X pins σ' H' { s' with heap := h3 } := J.landed nb fl3.1 (up.trans up3) os ag
    obtain ⟨oe3, vs3, he3, hz3, hd3⟩ := fl3.there
    have notFr : ∀ {h : Heap} {o : Obj} {vs : Array Value}, h.FunFrames B (X.env :: X.outer) → h.get? a = some o → o.data = .fields vs → a ∉ frs (X.env :: X.outer) := fun {h o vs} ff e dd hm => by
      obtain ⟨_, o', e', hnf⟩ := ff.mem hm
      rw [e] at e'; cases e'
      exact hnf _ dd
    have nfr := notFr fl3.2.2.1 he3 hd3
    have nL : a ≠ X.env.locals := fun z => nfr (List.mem_filterMap.mpr ⟨X.env, List.mem_cons_self, by rw [hf, z]⟩)
    have nF : a ∉ X.fs := fun hm => by
      obtain ⟨e, he, q⟩ := List.mem_filterMap.mp hm
      exact nfr (List.mem_filterMap.mpr ⟨e, List.mem_cons_of_mem _ he, q⟩)
    have S3 := J3.suite he3 hd3 na nL nF
    have go : ∀ {hds' : List ExceptHandler} {l' : List (Value × (Addr → Value → Option Addr → TS))}, HdsN X n hds' l' → wManyN X.K i Wout D l' cls d σ' H' →
        wpAny (model X.prog X.w) X.A (handleBy (.ref a) X.env hds') (SP X pins D) X.xe { s' with heap := h3 } := by
      intro hds' l' hk
      induction hk with
      | nil =>
        intro w
        refine wpAny_handleBy_nil ?_
        obtain ⟨k1, k2, k3, oe, vs, T, oT, ts', he, hz, hd, h1, hr⟩ := id fl3
        unfold PySem.passOn
        refine wpAny_bind (wpAny_field he hd h1 ?_)
        rw [if_neg (show ¬ ((Value.ref T == Value.none) = true) from by simp)]
        have fin : wpAny (model X.prog X.w) X.A (setFlight (.ref a) X.env.frame) (fun _ s4 => wpAny (model X.prog X.w) X.A (throw (.ref a) : Sem Flow) (SP X pins D) X.xe s4) X.xe { s' with heap := h3 } := by
          rw [hf]
          refine HandSPX.setFlight_upZ fl3 fun h4 hh4 up4 => wpAny_throw (tk _ _ ?_)
          exact ⟨a, B, sI, pins, σ', H', cls, d, rfl, J, nb, (up.trans up3).trans up4, .inr (.inr (by rw [hs]; exact hh4)), na, os, ag, w⟩
        first
          | exact wpAny_bind (wpAny_pure (wpAny_bind fin))
          | exact wpAny_bind fin
      | @cons x c ts b₀ suite np pos' hds2 l2 hc hsu r ih =>
        intro w
        obtain ⟨b, hb1, hyes, hno⟩ := w
        refine wpAny_handleBy_cons (codeAny_handlers_test ?_) (by intro q; cases q)
        have LT : PySem.W.Looks (model X.prog X.w) h3 (typeOf (.ref a)) cls := fun A Q E s k q => wpAny_typeOf_ref (k _ _ he3) (by rw [hz3.1]; exact q)
        have LM := PySem.W.exm_one (M := model X.prog X.w) (J3.kIn) LT hb1
        have test : ∀ {Q : Value → Shared → Prop} {E : Value → Shared → Prop}, Q c { s' with heap := h3 } → wpAny (model X.prog X.w) (X.A.mark (some (.ref a))) (eval (.Name x np) X.env) Q E { s' with heap := h3 } := fun {Q E} q => by
          obtain ⟨hg, hdbg, hm | ⟨hm, hv, hnn⟩⟩ := hc
          · exact ld_glob (X := X.suite a ((a, oe3) :: (X.pn ++ pins))) S3 hg hm q hdbg
          · exact ld_blt (X := X.suite a ((a, oe3) :: (X.pn ++ pins))) S3 hg hm hv q hnn hdbg
        refine test (LM.here ?_)
        cases b with
        | true =>
          refine codeAny_handlers_suite_as ?_
          refine HandSPX.lands_againZ fl3 fun h4 fl4 up4 => ?_
          have J4 : Inv X pins σ' H' { s' with heap := h4 } := J.landed nb fl4.1 ((up.trans up3).trans up4) os ag
          obtain ⟨oe4, vs4, he4, hz4, hd4⟩ := fl4.there
          have S4 := J4.suite he4 hd4 na nL nF
          refine store_ok (X := X.suite a ((a, oe4) :: (X.pn ++ pins))) (v := .ref a) S4 hN hi hloc rfl (fun s5 S5 => ?_) (.inr hln)
          refine wpAny_mono ((hsu a oe4 cls d (X.pn ++ pins) hz4 ⟨_, hd4⟩).run [] s5 _ H' _ S5 (hyes rfl a na)) (fun f s6 hsp => ?_) (fun _ _ z => False.elim z)
          have end_ : ∀ {σ6 : St} {H6 : Hp} {Q : Shared → Prop}, Inv (X.suite a ((a, oe4) :: (X.pn ++ pins))) [] σ6 H6 s6 → (∀ s7, Inv X pins (σ6.set i none) H6 s7 → Q s7) →
              wpAny (model X.prog X.w) X.A (do bindName X.env n .none; unbindBehindTheSuite X.env n pos') (fun _ s7 => Q s7) X.xe s6 := fun {σ6 H6 Q} S6 hq => gone_ok (S6.unsuite ok) hN hi hln hq
          cases f with
          | next =>
            obtain ⟨σ6, H6, S6, q6⟩ := hsp
            exact end_ S6 fun s7 J7 => ⟨_, _, J7, q6⟩
          | brk =>
            obtain ⟨σ6, H6, S6, q6⟩ := hsp
            exact end_ S6 fun s7 J7 => ⟨_, _, J7, q6⟩
          | cont =>
            obtain ⟨σ6, H6, S6, q6⟩ := hsp
            exact end_ S6 fun s7 J7 => ⟨_, _, J7, q6⟩
          | ret u =>
            obtain ⟨v6, σ6, H6, S6, r6, q6⟩ := hsp
            exact end_ S6 fun s7 J7 => ⟨_, _, _, J7, r6, q6⟩
        | false =>
          show wpAny _ X.A (handleBy (.ref a) X.env hds2) _ _ _
          exact ih (hno rfl)
    exact go hh w
  · cases f with
    | next =>
      obtain ⟨σ', H', J', q⟩ := hsp
      exact wpAny_execs_nil ⟨σ', H', J'.ofTry ok, q⟩
    | brk =>
      obtain ⟨σ', H', J', q⟩ := hsp
      exact ⟨σ', H', J'.ofTry ok, q⟩
    | cont =>
      obtain ⟨σ', H', J', q⟩ := hsp
      exact ⟨σ', H', J'.ofTry ok, q⟩
    | ret u =>
      obtain ⟨v, σ', H', J', r, q⟩ := hsp
      exact ⟨v, σ', H', J'.ofTry ok, r, q⟩
end
/-- X() -/
theorem pmk_own0 {X : Cx} {C : Addr} {bmB : List Value} {B newId initId : String} {x : Str} {p pos : Pos} (F : ExcBaseFacts B newId initId bmB) (q : PySem.W.excIn X.K C bmB newId = true) (gC : X.mg x = some (.ref C)) (kC : PySem.W.keepIn X.K (.ref C) = true) (r : Raises X (.ref C)) (hg : Gl X x)
    (hdb : (x == ("__debug__" : Str)) = false := by decide) : PMk X (.Call (.Name x p) [] [] pos) (fun _ H Q => Q (.ref C) none H) := by
  intro pins s σ H Q I h
  refine wpAny_Call_Name_kw (ld_glob I hg gC ?_ hdb)
  refine PySem.W.callWith_K0 I.kIn kC ?_
  show wpAny _ _ (call (.ref C) []) _ _ _
  obtain ⟨bm, N, nm, qn, bs, hdct, sn, sub, ab, col, dd, k0, k1, k2, k3, k5, mN, hC, hN, hni, T⟩ := exc_obj I.kIn q
  refine wpAny_call_exc_subT F T hC hN hni (fun h' e hm => ?_) (by show 0 ≤ sizeLine; omega)
  exact mk_of I hm r h (I.hok.gone hm.new)
end L2N
namespace Wm
open PySem PySem.Spec PyProof.Rows L2
/-! ### defs that raise, told over data -/
/-- R: the objects, the arguments, the class that is raised; the objects stay -/
def spE (K : PySem.W.Frag) (R : Ms → List Sl → Addr → Prop) : Sp := fun vs H _ E => ∃ L M ss C, (∀ a ∈ L, H a ≠ none) ∧ (∀ a ∈ ad M, a ∈ L) ∧ (ad M).Nodup ∧ Paired (SlOk K (hid L H)) vs ss ∧ (∀ x ∈ M, MOk K (hid L H) H x.1 x.2) ∧ R M ss C ∧
  ∀ H1, Same (hid (ad M) H) H1 → (∀ x ∈ M, MOk K (hid L H1) H1 x.1 x.2) → E (.ref C) none H1
section
variable {P : Program} {w : World} {K : PySem.W.Frag} {mg : Str → Option Value} {base : Heap} {x qual : Str} {st : Stmt} {f C : Addr} {fd : FuncData} {N ps : List Str} {j k : Nat} {sp sp' : Sp}
theorem okE {R : Ms → List Sl → Addr → Prop} (Fn : Fun K x qual st f fd) (S : FnScope N ps (defScope st)) (hl : ∀ M ss C, R M ss C → ss.length = ps.length)
    (hb : ∀ cdv A outer s H E, Room k (A.deeper (envOfC qual (defScope st) s.heap.objs.size f cdv)) → ∃ t, PSs (cxOf (L2N.CX P w) P w K mg base N qual (defScope st) f cdv A outer s H E) (defBody st) t ∧
      ∀ M ss C, R M ss C → ∀ (F : Hp) L σ H (D : Ends), (∀ H', Same F H' → (∀ x ∈ M, MOk K (hid L H') H' x.1 x.2) → E (.ref C) none H') → (∀ a ∈ ad M, a ∈ L) → Ok K F L σ H (st0 N ss) M → t D σ H) :
    FnOk P w K mg base (L2N.CX P w) (k + 1) f fd ps (spE K R) := by
  obtain ⟨oc, od, kV, doc, pm, an, cdv, ct, osl, rfl, lk, hcd⟩ := Fn.ex
  refine fn_of lk hcd S (fun vs H Q E h => ?_) fun A outer s H vs Q E hr h => ?_
  · obtain ⟨L, M, ss, C, lv, hL, nd, hp, hm, hR, _⟩ := h
    rw [paired_len hp]; exact hl _ _ _ hR
  · obtain ⟨L, M, ss, C, lv, hL, nd, hp, hm, hR, q⟩ := h
    obtain ⟨t, h1, h2⟩ := hb cdv A outer s H E hr
    have sub : ∀ G : Hp, Same (hid L G) (hid (L ++ ad M) G) := fun G => hid_sub fun a ha => by
      rcases List.mem_append.mp ha with z | z
      · exact z
      · exact hL a z
    exact ⟨t, h1, h2 M ss C hR (hid (ad M) H) L _ H _ (fun H' s2 g1 => q H' s2 g1) hL (ok_start (Paired.mapP hp fun _ _ z => z.mono (sub H)) lv (fun y hy => (hm y hy).mono (sub H) rfl) nd (hid_le _ _) fun a ha => hid_in ha)⟩
/-- what a def that may raise hands its callers -/
def HasX (P : Program) (w : World) (K : PySem.W.Frag) (mg : Str → Option Value) (base : Heap) (k : Nat) (x : Str) (ps : List Str) (sp : Sp) : Prop := ∃ f fd, FnOk P w K mg base (L2N.CX P w) k f fd ps sp ∧ mg x = some (.ref f) ∧ PySem.W.keepIn K (.ref f) = true ∧ Binds K fd ps []
def HasMX (P : Program) (w : World) (K : PySem.W.Frag) (mg : Str → Option Value) (base : Heap) (C : Addr) (k : Nat) (m : Str) (ps : List Str) (sp : Sp) : Prop := ∃ (f : Addr) (fd : FuncData), FnOk P w K mg base (L2N.CX P w) k f fd ps sp ∧ Meth K C m f ∧ Binds K fd ps []
theorem HasX.mono (h : HasX P w K mg base j x ps sp) (e : j ≤ k) : HasX P w K mg base k x ps sp := by
  obtain ⟨f, fd, h1, h2, h3, h4⟩ := h
  exact ⟨f, fd, h1.mono e, h2, h3, h4⟩
theorem HasMX.mono (h : HasMX P w K mg base C j x ps sp) (e : j ≤ k) : HasMX P w K mg base C k x ps sp := by
  obtain ⟨f, fd, h1, h2, h3⟩ := h
  exact ⟨f, fd, h1.mono e, h2, h3⟩
theorem fnOk_or {CX : CXT} {f : Addr} {fd : FuncData} (a : FnOk P w K mg base CX k f fd ps sp) (b : FnOk P w K mg base CX k f fd ps sp') : FnOk P w K mg base CX k f fd ps (fun vs H Q E => sp vs H Q E ∨ sp' vs H Q E) :=
  ⟨fun vs H Q E h => h.elim (a.len _ _ _ _) (b.len _ _ _ _), fun A outer s H args us vs Q E hr e0 hb r h => h.elim (a.run A outer s H args us vs Q E hr e0 hb r) (b.run A outer s H args us vs Q E hr e0 hb r)⟩
theorem spE_or {R R' : Ms → List Sl → Addr → Prop} {vs : List V} {H : Hp} {Q : VK} {E : XK} (h : spE K (fun M ss C => R M ss C ∨ R' M ss C) vs H Q E) : spE K R vs H Q E ∨ spE K R' vs H Q E := by
  obtain ⟨L, M, ss, C, h1, h2, h3, h4, h5, h6, h7⟩ := h
  rcases h6 with z | z
  · exact .inl ⟨L, M, ss, C, h1, h2, h3, h4, h5, z, h7⟩
  · exact .inr ⟨L, M, ss, C, h1, h2, h3, h4, h5, z, h7⟩
theorem spMs_or {R R' : Ms → List Sl → PyData → Ms → Prop} {vs : List V} {H : Hp} {Q : VK} {E : XK} (h : spMs K (fun M ss r M' => R M ss r M' ∨ R' M ss r M') vs H Q E) : spMs K R vs H Q E ∨ spMs K R' vs H Q E := by
  obtain ⟨L, M, ss, r, M', h1, h2, h3, h4, h5, h6, h7⟩ := h
  rcases h6 with z | z
  · exact .inl ⟨L, M, ss, r, M', h1, h2, h3, h4, h5, z, h7⟩
  · exact .inr ⟨L, M, ss, r, M', h1, h2, h3, h4, h5, z, h7⟩
/-- what stands behind a raise -/
theorem pss_never {X : Cx} {ss : List Stmt} : PSs X ss (fun _ _ _ => False) := ⟨fun _ _ _ _ _ _ h => h.elim⟩
theorem pss_pre {X : Cx} {ss : List Stmt} {p : Prop} {t : TS} (h : p → PSs X ss t) : PSs X ss (fun D σ H => p ∧ t D σ H) := ⟨fun pins s σ H D I ⟨h1, h2⟩ => (h h1).run pins s σ H D I h2⟩
/-- an own class of error, without an __init__ of its own -/
structure ErrC (K : PySem.W.Frag) (mg : Str → Option Value) (x : Str) (C : Addr) : Prop where
  g : mg x = some (.ref C)
  ex : PySem.W.excIn K C [.type "ValueError", .type "Exception", .type "BaseException", .type "object"] "ValueError.__new__" = true
  kp : PySem.W.keepIn K (.ref C) = true
  s1 : PySem.W.subIn K (.ref C) (.type "BaseException") = some true
  t1 : PySem.W.typeIn K (.ref C) = some (.type "type")
section
variable {scope : Scope} {cd : Value} {A : Around} {outer : List Env} {s : Shared} {H : Hp} {E : XK} {p pos pos' : Pos}
theorem passE : Passes (L2N.CX P w) (cxOf (L2N.CX P w) P w K mg base N qual scope f cd A outer s H E) E := L2N.passes_call (L2N.takes_of rfl rfl rfl rfl) (fun _ _ _ _ h => h)
theorem ps_raiseX (Y : ErrC K mg x C) (hg : Gl (cxOf (L2N.CX P w) P w K mg base N qual scope f cd A outer s H E) x) (hd : (x == ("__debug__" : Str)) = false := by decide) :
    PS (cxOf (L2N.CX P w) P w K mg base N qual scope f cd A outer s H E) (.Raise (some (.Call (.Name x p) [] [] pos)) none pos') (fun _ _ H' => E (.ref C) none H') :=
  L2N.ps_raise (t := fun _ H Q => Q (.ref C) none H) rfl (L2N.takes_of rfl rfl rfl rfl) (L2N.pmk_own0 PySem.F.excBase_ValueError Y.ex Y.g Y.kp (raises_own Y.s1 Y.t1) hg hd)
end
end
section
variable {K : PySem.W.Frag} {F F' H H' H0 H1 : Hp} {L : List Addr} {σ σ' : L2.St} {ρ ρ' : List Sl} {M M' M0 M1 M2 M3 Mn : Ms}
variable {te ta tb tc ti td ty tx tv : TE} {tt : TT} {tr : TA} {s s1 s2 : Sl} {ss : List Sl} {d d1 d2 d3 : PyData} {ds es : List PyData} {D : Ends} {tu tw tz : TS} {p q C C0 : Addr} {fs : List (Str × Sl)} {m : Str} {E : XK} {Q : VK} {R : Ms → List Sl → Addr → Prop}
theorem x_sp {vs : List V} (o : Ok K F L σ H ρ M) (M0 : Ms) (w : M0.Sublist M) (hv : Paired (SlOk K (hid (L ++ ad M) H)) vs ss) (hR : R M0 ss C) (hE : ∀ H1, Ok K F L σ H1 ρ M → E (.ref C) none H1) : spE K R vs H Q E :=
  ⟨L ++ ad M, M0, ss, C, fun a ha => o.there ha, fun a ha => List.mem_append_right _ ((w.map Prod.fst).subset ha), List.Nodup.sublist (w.map _) o.nd, hv, fun x hx => o.ob x (w.subset hx), hR, fun H2 s2 hm => hE H2 (swap_ok o (fun nd => Sw.same w nd) s2 hm rfl).1⟩
/-- a call that raises -/
theorem x_call (ha : EvA K tr ρ M ss M) (M0 : Ms) (w : M0.Sublist M) (hR : R M0 ss C) (hE : ∀ H1, Ok K F L σ H1 ρ M → E (.ref C) none H1) (o : Ok K F L σ H ρ M) : tCall (spE K R) [] E tr σ H Q := ha F L σ H o _ fun vs H1 o1 e1 a1 x1 => by
  rw [List.append_nil]
  exact x_sp o1 M0 w x1 hR hE
theorem x_meth (ho : Ev K ta ρ M (.loc (.ref p)) M) (hp : (p, MO.ins C0 fs) ∈ M) (hl : fs.lookup m = none) (ha : EvA K tr ρ M ss M) (M0 : Ms) (w : M0.Sublist M) (hR : R M0 (.loc (.ref p) :: ss) C) (hE : ∀ H1, Ok K F L σ H1 ρ M → E (.ref C) none H1) (o : Ok K F L σ H ρ M) : tMeth C0 m (spE K R) [] E ta tr σ H Q := ho F L σ H o _ fun x H0 o0 e0 a0 x0 => by
  have ex : x = .ref p := x0
  subst ex
  obtain ⟨dx, gs, h1, h2⟩ := o0.ob _ hp
  refine ⟨p, dx, gs, rfl, h1, FF.none h2 hl, ha F L σ H0 o0 _ fun vs H1 o1 e1 a1 x1 => ?_⟩
  rw [List.append_nil]
  exact x_sp (ss := .loc (.ref p) :: ss) o1 M0 w (.cons rfl x1) hR hE
/-- .. as a statement -/
theorem x_drop (h : ∀ Q, te σ H Q) : tDrop te D σ H := h _
theorem x_ret (h : ∀ Q, te σ H Q) : tRet te D σ H := h _
theorem xq_drop (h : ∀ Q, te σ H Q) : tSeq (tDrop te) tz D σ H := h _
theorem xq_ifT (h : EvT K tt ρ M true M) (h1 : ∀ H D, Ok K F L σ H ρ M → tu D σ H) (o : Ok K F L σ H ρ M) : tSeq (tIfS tt tu tw) tz D σ H := s_ifT (D := { D with nx := tz D }) h (fun H o => h1 H _ o) o
theorem x_if {b : Bool} (h : EvT K tt ρ M b M) (h1 : ∀ H, Ok K F L σ H ρ M → (if b = true then ta else tb) σ H Q) (o : Ok K F L σ H ρ M) : tIf tt ta tb σ H Q := h F L σ H o _ fun H1 o1 e1 a1 => by
  have z := h1 H1 o1
  cases b
  · exact z
  · exact z
end
end Wm

/-! lambdas with parameters: made, kept, called. -/
namespace Wm
open PySem PySem.Spec PyProof.Rows L2
open NdefX (NF NScope CellsAt startF envF ncx TabN inv_startN codeO_at among_app2 upd_none)
open LamX (CodeO TabB ExtN inv_table codeO_ne)
/-- the object at f is the lambda F with the body e -/
def LamO (f : Addr) (F : NF) (e : Expr) : HO := .ext fun h => ∃ (od : Option Addr) (sl : Array (Option Value)) (pm ctv : Value), h.get? f = some (⟨.type "function", od, .func (PySem.W.kla_fn F.name F.qual F.params e F.scope F.cl pm (.ref F.c) ctv), sl⟩ : Obj)
theorem lamO_at {P : Program} {w : World} {H : Hp} {h : Heap} {f : Addr} {F : NF} {e : Expr} (hok : HOk P w H h) (z : H f = some (LamO f F e)) : ∃ (od : Option Addr) (sl : Array (Option Value)) (pm ctv : Value), h.get? f = some (⟨.type "function", od, .func (PySem.W.kla_fn F.name F.qual F.params e F.scope F.cl pm (.ref F.c) ctv), sl⟩ : Obj) := by
  obtain ⟨z, _, _⟩ := hok f _ z
  exact z
section
variable {X : Cx} {pins : List (Addr × Obj)} {σ : L2.St} {H : Hp} {s : Shared}
theorem inv_lam {F : NF} {e : Expr} {o : Obj} {t' : Nat} {pm ctv : Value} (I : Inv X pins σ H s) (ho : o = { cls := .type "function", data := .func (PySem.W.kla_fn F.name F.qual F.params e F.scope F.cl pm (.ref F.c) ctv) }) :
    Inv X pins σ (upd H s.heap.objs.size (LamO s.heap.objs.size F e)) { s with heap := s.heap.push o, toks := t' } := by
  subst ho
  refine I.laid (a := s.heap.objs.size) (fun b u e => Heap.get?_push_of_some _ e) (Nat.le_refl _) ?_
  have e : (s.heap.push ({ cls := .type "function", data := .func (PySem.W.kla_fn F.name F.qual F.params e F.scope F.cl pm (.ref F.c) ctv) } : Obj)).get? s.heap.objs.size = some ({ cls := .type "function", data := .func (PySem.W.kla_fn F.name F.qual F.params e F.scope F.cl pm (.ref F.c) ctv) } : Obj) := Heap.get?_push_size _ rfl
  exact ⟨⟨_, _, pm, ctv, e⟩, ⟨_, e⟩, fun h1 h2 ⟨od, sl, p, t, z⟩ st => ⟨od, sl, p, t, st _ z⟩⟩
/-- the reading of a lambda: f is new, its code object new or found in the table at P -/
def tLamE (P : Addr) (nm : Nat → Nat → Str) (mk : Addr → NF) (e : Expr) : TE := fun _ H Q => ∃ ps : Array Value, H P = some (.tbl ps) ∧ TriplesOk ps.toList ∧ (∀ (pos : Pos) (cv : Value), codeAmong pos ps.toList = some cv → ∃ c, cv = .ref c ∧ H c = some (CodeO c (nm pos.line pos.col))) ∧
  ∀ (f c' : Addr) (H1 : Hp) (ps' : Array Value), (∀ b o, b ≠ P → H b = some o → H1 b = some o) → H1 P = some (.tbl ps') → TriplesOk ps'.toList → (∀ (pos : Pos) (cv : Value), codeAmong pos ps'.toList = some cv → codeAmong pos ps.toList = some cv ∨ (cv = .ref c' ∧ nm pos.line pos.col = (mk c').qual)) →
    (H c' = none ∨ ∃ pos : Pos, codeAmong pos ps.toList = some (.ref c')) → H f = none → H1 f = some (LamO f (mk c') e) → H1 c' = some (CodeO c' (mk c').qual) → Q (.ref f) H1
theorem pe_lam {nm : Nat → Nat → Str} {c P : Addr} {params : Arguments} {body : Expr} {scope : Scope} {pos : Pos} (TB : TabB X.base X.mg c P) (hcode : X.env.code = .ref c) (hn : nm pos.line pos.col = X.env.qual ++ "<lambda>") (hdef : defaultsOf params X.env = ([], [])) (hfree : scope.names.all (fun y => !decide (y.2 = .free)) = true) :
    PE X (.Lambda params body scope pos) (tLamE P nm (fun c' => ⟨"<lambda>", X.env.qual ++ "<lambda>", params, [], scope, [], c'⟩) body) := by
  refine ⟨fun pins s σ H Q I h => ?_⟩
  obtain ⟨ps, hP, ht, ha, h⟩ := h
  have nofree : ∀ y ∈ scope.names, y.2 = .free → False := fun y hy e => by
    have z := List.all_eq_true.mp hfree y hy
    simp [e] at z
  have hfr : ∀ y ∈ scope.names, y.2 = .free → ∃ c, X.env.cells.lookup y.1 = some c := fun y hy e => (nofree y hy e).elim
  have hcl : cloFrom X.env.cells scope.names [] = [] := by
    cases e : cloFrom X.env.cells scope.names [] with
    | nil => rfl
    | cons y ys =>
      have hm : y ∈ cloFrom X.env.cells scope.names [] := by rw [e]; exact List.mem_cons_self
      rcases cloFrom_mem (show (y.1, y.2) ∈ _ from hm) with z | ⟨h1, _⟩
      · cases z
      · exact (nofree _ h1 rfl).elim
  have hclo := closure_ok hfr
  rw [hcl] at hclo
  refine PySem.W.kla_eval hdef ?_
  have bP : s.heap.BuiltinsAt X.mg P := TB.bm.keeps I.bk
  have hP' : s.heap.get? P = some { cls := .none, data := .fields ps } := I.hok P _ hP
  cases hc : codeAmong pos ps.toList with
  | none =>
    refine PySem.W.kla_makeFunction (mg := X.mg) (c := c) (P := P) (ps := ps) hclo I.ok.glob (I.mod.glob.keeps I.bk) hcode (TB.code.keeps I.bk) hP' ht hc TB.gP bP fun c' ctv h' tk hx hge hlt hrec htb => ?_
    obtain ⟨c2, oc, vs, t, e2, hoc, hd, hv⟩ := hrec
    cases e2
    have nC : H c' = none := I.hok.fresh hge
    have I1 := inv_table (t' := tk) (more := #[rawInt pos.line, rawInt pos.col, .ref c']) (h' := h') I hP (fun b o hb e => hx b o hb e) htb hge ⟨oc, vs, t, hoc, hd, hv⟩
    have eL : (ps ++ #[rawInt pos.line, rawInt pos.col, .ref c']).toList = ps.toList ++ [rawInt pos.line, rawInt pos.col, .ref c'] := by simp
    have nF := I1.hok.fresh (Nat.le_refl _)
    have I2 := inv_lam (F := ⟨"<lambda>", X.env.qual ++ "<lambda>", params, [], scope, [], c'⟩) (e := body) (t' := tk) (pm := (X.mg "__name__").getD .none) (ctv := ctv) I1 rfl
    have eP : upd (upd H P (.tbl (ps ++ #[rawInt pos.line, rawInt pos.col, .ref c']))) c' (CodeO c' (X.env.qual ++ "<lambda>")) P = some (.tbl (ps ++ #[rawInt pos.line, rawInt pos.col, .ref c'])) := by rw [upd_ne (ne_of_none hP nC), upd_same]
    refine ⟨.ref h'.objs.size, _, I2, rfl, h h'.objs.size c' _ (ps ++ #[rawInt pos.line, rawInt pos.col, .ref c']) (fun b o hb e => ?_) ?_ (by rw [eL]; exact PySem.TriplesOk_snoc _ _ _ _ ht) (fun p' cv hcv => ?_) (.inl nC) (I.hok.fresh (Nat.le_trans hge (Nat.le_of_lt hlt))) upd_same ?_⟩
    · have e1 : upd (upd H P (.tbl (ps ++ #[rawInt pos.line, rawInt pos.col, .ref c']))) c' (CodeO c' (X.env.qual ++ "<lambda>")) b = some o := by rw [upd_ne (ne_of_none e nC), upd_ne hb]; exact e
      exact (upd_ne (ne_of_none e1 nF)).trans e1
    · exact (upd_ne (ne_of_none eP nF)).trans eP
    · rw [eL] at hcv
      rcases among_app2 _ ht hcv with z | ⟨z, z1, z2⟩
      · exact .inl z
      · exact .inr ⟨z, by rw [← z1, ← z2, hn]⟩
    · exact (upd_ne (Nat.ne_of_lt hlt)).trans upd_same
  | some cv =>
    obtain ⟨c', e, hco⟩ := ha pos cv hc
    subst e
    rw [hn] at hco
    refine PySem.W.kla_makeFunctionHit (mg := X.mg) (c := c) (P := P) (ps := ps) hclo I.ok.glob (I.mod.glob.keeps I.bk) hcode (TB.code.keeps I.bk) hP' ht hc bP fun ctv h' tk hx hsz => ?_
    have I1 : Inv X pins σ H { s with heap := h', toks := tk } := I.kept hx
    have nF : H h'.objs.size = none := I1.hok.fresh (Nat.le_refl _)
    have I2 := inv_lam (F := ⟨"<lambda>", X.env.qual ++ "<lambda>", params, [], scope, [], c'⟩) (e := body) (t' := tk) (pm := (X.mg "__name__").getD .none) (ctv := ctv) I1 rfl
    exact ⟨.ref h'.objs.size, _, I2, rfl, h h'.objs.size c' _ ps (fun b o hb e => (upd_ne (ne_of_none e nF)).trans e) ((upd_ne (ne_of_none hP nF)).trans hP) ht (fun p' cv hcv => .inl hcv) (.inr ⟨pos, hc⟩) nF upd_same ((upd_ne (ne_of_none hco nF)).trans hco)⟩
end
/-! ### called -/
structure LOk (P : Program) (w : World) (K : PySem.W.Frag) (mg : Str → Option Value) (base : Heap) (CX : CXT) (k : Nat) (f : Addr) (F : NF) (e : Expr) (ps : List Str) (sp : Sp) : Prop where
  len : ∀ vs H Q E, sp vs H Q E → vs.length = ps.length
  run : ∀ (A : Around) (outer : List Env) (s : Shared) (H : Hp) (us : List Value) (vs : List V) (Q : VK) (E : XK), Room k A → Env0 P w K mg base A outer s H → H f = some (LamO f F e) → H F.c = some (CodeO F.c F.qual) →
    Vals vs us → sp vs H Q E → codeAny (model P w) A (.call (.ref f) ⟨us, []⟩) (CR CX outer P w H s Q E) s
section
variable {CX : CXT} {P : Program} {w : World} {K : PySem.W.Frag} {mg : Str → Option Value} {base : Heap} {N ps : List Str} {F : NF} {e : Expr} {f : Addr} {k j : Nat} {sp sp' : Sp}
theorem LOk.mono (o : LOk P w K mg base CX j f F e ps sp) (h : j ≤ k) : LOk P w K mg base CX k f F e ps sp := ⟨o.len, fun A outer s H us vs Q E hr => o.run A outer s H us vs Q E (hr.mono h)⟩
theorem lok_of (S : NScope N ps [] F.scope) (hcl : F.cl = []) (hb : ∀ (pm ctv : Value) (us : List Value), us.length = ps.length → bindArgs (PySem.W.kla_fn F.name F.qual F.params e F.scope F.cl pm (.ref F.c) ctv) ⟨us, []⟩ = pure (ps.zip us)) (len : ∀ vs H Q E, sp vs H Q E → vs.length = ps.length)
    (hbody : ∀ (A : Around) (outer : List Env) (s : Shared) (H : Hp) (vs : List V) (Q : VK) (E : XK), Room k (A.deeper (envF F f s.heap.objs.size)) → sp vs H Q E →
      ∃ t, PE (ncx CX P w K mg base N F f A outer s H E) e t ∧ t (startF N vs []) H Q) :
    LOk P w K mg base CX (k + 1) f F e ps sp := by
  refine ⟨len, fun A outer s H us vs Q E hr e0 hf hc r hsp => ?_⟩
  have hl := len _ _ _ _ hsp
  have lim : s.heap.NoLimit := e0.mod.nolimit.keeps fun b o e => (e0.bs b o e).1
  obtain ⟨od, sl, pm, ctv, ho⟩ := lamO_at e0.hok hf
  refine PySem.W.kla_callFunE hr.depth ho rfl S.co S.gen rfl (codeO_at e0.hok hc) ?_
  rw [hb pm ctv us (by rw [← r.length]; exact hl)]
  refine wpAny_pure (wpAny_newFunctionEnv S.nocell (fun ⟨n, _⟩ hy => S.par n (List.of_mem_zip hy).1) (fun h₁ hns hsb => ⟨lim.fresh _ hsb, ?_⟩) S.kind)
  show codeAny _ _ (.expr e (envF F f s.heap.objs.size)) _ _
  have kp : ∀ b o, s.heap.get? b = some o → h₁.get? b = some o := fun b o e => hsb.extBut b o (Nat.ne_of_lt (Heap.lt_size e)) (Heap.get?_push_of_some _ e)
  obtain ⟨t, ht, hq⟩ := hbody A outer s H vs Q E (hr.deeper _) hsp
  have C : CellsAt F.cl [] [] s.heap H := by
    rw [hcl]
    exact ⟨rfl, fun y c z => (nomatch z), fun x y c z => (nomatch z), fun i y z => by simp at z⟩
  have I : Inv (ncx CX P w K mg base N F f A outer s H E) [] (startF N vs []) H { s with heap := h₁, toks := s.toks + (ps.zip us).length } := inv_startN S hr.hd e0 hl r C hns kp
  refine PySem.W.kla_codeExpr (wpAny_mono (ht.run [] _ _ H Q I hq) (fun v s' hs => ?_) fun e s' hs => hs)
  obtain ⟨w', H', J', rv, q⟩ := hs
  exact ⟨w', H', J'.os, J'.bare, J'.base, J'.hok, rv, q⟩
/-- an exception goes through the lambda's frame -/
theorem passN {A : Around} {outer : List Env} {s : Shared} {H : Hp} {E : XK} : Passes (L2N.CX P w) (ncx (L2N.CX P w) P w K mg base N F f A outer s H E) E := L2N.passes_call (L2N.takes_of rfl rfl rfl rfl) (fun _ _ _ _ h => h)
end
/-- x(..), x a name that holds a lambda -/
def tCallL (mk : Addr → NF) (e : Expr) (i : Nat) (sp : Sp) (E : L2.St → XK) (t : TA) : TE := fun σ H Q => ∃ f c', σ[i]? = some (some (.ref f)) ∧ H f = some (LamO f (mk c') e) ∧
  t σ H fun vs H1 => H1 f = some (LamO f (mk c') e) ∧ H1 (mk c').c = some (CodeO (mk c').c (mk c').qual) ∧ sp vs H1 Q (E σ)
section
variable {X : Cx} {CX : CXT} {mk : Addr → NF} {ps : List Str} {i j k : Nat} {x : Str} {sp : Sp} {E : L2.St → XK} {t : TA} {e b : Expr} {es : List Expr} {p pos : Pos}
theorem lamAt {pins : List (Addr × Obj)} {σ : L2.St} {H : Hp} {s : Shared} {f : Addr} {F : NF} (I : Inv X pins σ H s) (z : H f = some (LamO f F b)) : PySem.W.FnAt f s.heap := by
  obtain ⟨od, sl, pm, ctv, ho⟩ := lamO_at I.hok z
  exact ⟨_, od, _, sl, ho⟩
theorem pe_calll (Fn : ∀ f c', LOk X.prog X.w X.K X.mg X.base CX k f (mk c') b ps sp) (hr : Room j X.A) (hk : k ≤ j) (hx : ∀ σ, PassesAt CX X σ (E σ)) (hN : X.N[i]? = some x) (hv : Vis X.env.scope x) (ha : PA X (e :: es) t)
    (hd : (x == ("__debug__" : Str)) = false := by decide) (hcd : (x == ("__classdict__" : Str)) = false := by decide)
    (he : starEach (e :: es) X.env = (false, eval e X.env) :: starEach es X.env := by rfl) (hpl : (backTo pos (starEach es X.env)).any (·.1) = false := by rfl) :
    PE X (.Call (.Name x p) (e :: es) [] pos) (tCallL mk b i sp E t) := by
  refine ⟨fun pins s σ H Q I h => ?_⟩
  obtain ⟨f, c', hs, hf, ht⟩ := h
  refine wpAny_Call_Name_kw (thn ((pe_var (pos := p) hN hv hd hcd).run pins s σ H (fun v H1 => v = .ref f ∧ H1 = H) I ⟨.ref f, hs, rfl, rfl⟩) fun u s1 ⟨v, H1, I1, r1, q1⟩ => ?_)
  obtain ⟨ev, eH⟩ := q1
  subst ev
  rw [eH] at I1
  obtain rfl : u = Value.ref f := r1
  refine PySem.W.callWith_F (first := []) (lamAt I1 hf) (thn (ha.run pos pins s1 σ H _ I1 ht) fun us s2 ⟨vs, H2, I2, r, h1, h2, q⟩ => ⟨lamAt I2 h1, ?_⟩) he hpl
  show wpAny _ _ (call (.ref f) us) _ _ _
  refine wpAny_call (codeAny_mono ((Fn f c').run X.A X.stack s2 H2 us vs _ (E σ) (hr.mono hk) I2.env0 h1 h2 r q) fun r s' hq => ?_)
  cases r with
  | error e => exact hx σ pins H2 s2 e s' I2 hq
  | ok fl =>
    cases fl with
    | ret u => exact I2.after hq
    | next => exact False.elim hq
    | brk => exact False.elim hq
    | cont => exact False.elim hq
end
/-! ### over data -/
def φL (mk : Addr → NF) (e : Expr) : V → Hp → Prop := fun v H => ∃ f c', v = .ref f ∧ H f = some (LamO f (mk c') e) ∧ H (mk c').c = some (CodeO (mk c').c (mk c').qual)
theorem set_self {α : Type} {l : List α} {j : Nat} {x : α} (h : l[j]? = some x) : l.set j x = l := by
  apply List.ext_getElem?; intro i
  rw [List.getElem?_set]
  by_cases e : j = i
  · subst e
    rw [if_pos rfl, if_pos (List.getElem?_eq_some_iff.mp h).1, h]
  · rw [if_neg e]
section
variable {K : PySem.W.Frag} {F F' H H' H0 H1 : Hp} {L : List Addr} {σ σ' : L2.St} {ρ ρ' : List Sl} {M M' M0 M1 M2 M3 Mn : Ms}
variable {te ta tb tc ti td ty tx tv : TE} {tt : TT} {tr : TA} {s s1 s2 : Sl} {ss : List Sl} {d d1 d2 d3 : PyData} {ds es : List PyData} {D : Ends} {tu tw tz : TS} {p q C C0 : Addr} {m : Str} {E : L2.St → XK} {Q : VK} {mk : Addr → NF} {e : Expr} {i : Nat}
theorem ev_lam {P : Addr} {nm : Nat → Nat → Str} (hp : (P, MO.tab nm) ∈ M) (hc : ∀ c, (mk c).c = c) : Ev K (tLamE P nm mk e) ρ M (.pr (φL mk e)) M := fun F L σ H o Q q => by
  obtain ⟨ps, h1, h2, h3⟩ := o.ob _ hp
  refine ⟨ps, h1, h2, fun pos cv z => (h3 pos cv z).imp fun c ⟨e1, e2⟩ => ⟨e1, (hid_some e2).2⟩, fun f c' H1 ps' hs hP ht hn hc' hf hl hcd => ?_⟩
  have s1 : Same (hid [P] H) H1 := fun a x z => by
    obtain ⟨n, z2⟩ := hid_some z
    exact hs a x (by simpa using n) z2
  have fr : f ∉ L ++ ad M := o.fresh hf
  have fc : c' ∉ L ++ ad M := by
    rcases hc' with z | ⟨pos, z⟩
    · exact o.fresh z
    · obtain ⟨c, e1, e2⟩ := h3 pos _ z
      cases e1
      exact (hid_some e2).1
  obtain ⟨j, hj⟩ := List.mem_iff_getElem?.mp hp
  have vis : ∀ a x, hid (L ++ ad M) H a = some x → hid (L ++ ad M) H1 a = some x := fun a x z => by
    obtain ⟨n, z2⟩ := hid_some z
    refine (hid_out n).trans (hs a x (fun w => n (List.mem_append_right _ ?_)) z2)
    rw [w]; exact List.mem_map.mpr ⟨_, hp, rfl⟩
  have o1 : Ok K F L σ H1 ρ M := by
    have z := o.change (y := .tab nm) hj s1 ⟨ps', hP, ht, fun pos cv w => ?_⟩ fun a ha na w => ?_
    · rw [set_self hj] at z; exact z
    · rcases hn pos cv w with w | ⟨w, w2⟩
      · obtain ⟨c, e1, e2⟩ := h3 pos cv w
        exact ⟨c, e1, vis _ _ e2⟩
      · refine ⟨c', w, (hid_out fc).trans ?_⟩
        rw [w2]; exact hcd
    · cases e3 : H a with
      | none => exact o.lv a ha e3
      | some y => rw [hs a y na e3] at w; cases w
  refine q _ H1 o1 rfl (fun a x z => ?_) fun H2 s2 => ⟨f, c', rfl, s2 _ _ ((hid_out fr).trans hl), ?_⟩
  · obtain ⟨n, z2⟩ := hid_some z
    refine hs a x (fun w => n ?_) z2
    rw [w]; exact List.mem_map.mpr ⟨_, hp, rfl⟩
  · rw [hc]
    exact s2 _ _ ((hid_out fc).trans hcd)
theorem pr_get {φ : V → Hp → Prop} (o : Ok K F L σ H ρ M) (h : ρ[i]? = some (.pr φ)) : ∃ v, σ[i]? = some (some v) ∧ φ v (hid (L ++ ad M) H) := by
  obtain ⟨v, h1, h2⟩ := o.get h (fun z => nomatch z)
  exact ⟨v, h1, h2 _ fun _ _ z => z⟩
theorem ev_varP {φ : V → Hp → Prop} (h : ρ[i]? = some (.pr φ)) : Ev K (tVar i) ρ M (.pr φ) M := fun F L σ H o Q q => by
  obtain ⟨v, h1, h2⟩ := o.get h (fun z => nomatch z)
  exact ⟨v, h1, q v H o rfl (fun a x z => (hid_some z).2) h2⟩
theorem callL {ss : List Sl} {sp : Sp} (h : ρ[i]? = some (.pr (φL mk e))) (ha : EvA K tr ρ M ss M1) (o : Ok K F L σ H ρ M) (k : ∀ vs H1, Ok K F L σ H1 ρ M1 → ad M1 = ad M → Same (hid (ad M) H) H1 → Paired (SlOk K (hid (L ++ ad M) H1)) vs ss → sp vs H1 Q (E σ)) : tCallL mk e i sp E tr σ H Q := by
  obtain ⟨v, h1, f, c', ev, h2, h3⟩ := pr_get o h
  subst ev
  refine ⟨f, c', h1, (hid_some h2).2, ha F L σ H o _ fun vs H1 o1 e1 a1 x1 => ?_⟩
  have vis : Same (hid (L ++ ad M) H) H1 := fun a x z => a1 a x (hid_sub (fun b hb => List.mem_append_right _ hb) _ _ z)
  exact ⟨vis _ _ h2, vis _ _ h3, k vs H1 o1 e1 a1 x1⟩
theorem ev_callL {R : Ms → List Sl → PyData → Ms → Prop} {r : PyData} (h : ρ[i]? = some (.pr (φL mk e))) (ha : EvA K tr ρ M ss M1) (M0 Mn : Ms) (hn : ad Mn = ad M0) (w : (ad M1).Nodup → Sw M0 Mn M1 M2) (hR : R M0 ss r Mn) : Ev K (tCallL mk e i (spMs K R) E tr) ρ M (.dat r) M2 := fun F L σ H o Q q => callL h ha o fun vs H1 o1 e1 a1 x1 => by
  have w' := w o1.nd
  have sub : ∀ a, a ∈ ad M0 → a ∈ ad M1 := fun a ha => by
    obtain ⟨y, hy, e⟩ := List.mem_map.mp ha
    exact List.mem_map.mpr ⟨y, w'.sub.subset hy, e⟩
  refine ⟨L ++ ad M1, M0, ss, r, Mn, fun a ha => o1.there ha, fun a ha => List.mem_append_right _ (sub a ha), List.Nodup.sublist (w'.sub.map _) o1.nd, by rw [e1]; exact x1, fun x hx => o1.ob x (w'.sub.subset hx), hR, hn, fun v H2 s2 hm hv => ?_⟩
  obtain ⟨o2, s3⟩ := swap_ok o1 w s2 hm hn
  exact q v H2 o2 (w'.ea.trans e1) (chain2 e1 a1 s3) (by rw [← e1]; exact hv)
theorem x_callL {R : Ms → List Sl → Addr → Prop} (h : ρ[i]? = some (.pr (φL mk e))) (ha : EvA K tr ρ M ss M) (M0 : Ms) (w : M0.Sublist M) (hR : R M0 ss C) (hE : ∀ H1, Ok K F L σ H1 ρ M → E σ (.ref C) none H1) (o : Ok K F L σ H ρ M) : tCallL mk e i (spE K R) E tr σ H Q := callL h ha o fun vs H1 o1 e1 a1 x1 => x_sp o1 M0 w x1 hR hE
end
/-! ### a lambda's body, over data -/
section
variable {P : Program} {w : World} {K : PySem.W.Frag} {mg : Str → Option Value} {base : Heap} {N ps : List Str} {F : NF} {e : Expr} {f : Addr} {k : Nat}
theorem startF_start (N : List Str) (vs : List V) : startF N vs [] = L2.start N vs := by
  unfold startF L2.start
  simp
theorem lokMs {R : Ms → List Sl → PyData → Ms → Prop} (S : NScope N ps [] F.scope) (hcl : F.cl = []) (hb : ∀ (pm ctv : Value) (us : List Value), us.length = ps.length → bindArgs (PySem.W.kla_fn F.name F.qual F.params e F.scope F.cl pm (.ref F.c) ctv) ⟨us, []⟩ = pure (ps.zip us)) (hl : ∀ M ss r M', R M ss r M' → ss.length = ps.length)
    (hbody : ∀ A outer s H E, Room k (A.deeper (envF F f s.heap.objs.size)) → ∃ t, PE (ncx (L2N.CX P w) P w K mg base N F f A outer s H E) e t ∧ ∀ M ss r M', R M ss r M' → Ev K t (st0 N ss) M (.dat r) M') :
    LOk P w K mg base (L2N.CX P w) (k + 1) f F e ps (spMs K R) := by
  refine lok_of S hcl hb (fun vs H Q E h => ?_) fun A outer s H vs Q E hr h => ?_
  · obtain ⟨L, M, ss, r, M', lv, hL, nd, hp, hm, hR, _⟩ := h
    rw [paired_len hp]; exact hl _ _ _ _ hR
  · obtain ⟨L, M, ss, r, M', lv, hL, nd, hp, hm, hR, ea, q⟩ := h
    obtain ⟨t, h1, h2⟩ := hbody A outer s H E hr
    have sub : ∀ G : Hp, Same (hid L G) (hid (L ++ ad M) G) := fun G => hid_sub fun a ha => by
      rcases List.mem_append.mp ha with z | z
      · exact z
      · exact hL a z
    refine ⟨t, h1, ?_⟩
    rw [startF_start]
    refine h2 M ss r M' hR (hid (ad M) H) L _ H (ok_start (Paired.mapP hp fun _ _ z => z.mono (sub H)) lv (fun y hy => (hm y hy).mono (sub H) rfl) nd (hid_le _ _) fun a ha => hid_in ha) _ fun v H1 o1 e1 a1 x1 => ?_
    exact q v H1 a1 (o1.mobs fun x hx => hx) (Dp.mono (hid_sub fun _ z => List.mem_append_left _ z) x1)
theorem lokE {R : Ms → List Sl → Addr → Prop} (S : NScope N ps [] F.scope) (hcl : F.cl = []) (hb : ∀ (pm ctv : Value) (us : List Value), us.length = ps.length → bindArgs (PySem.W.kla_fn F.name F.qual F.params e F.scope F.cl pm (.ref F.c) ctv) ⟨us, []⟩ = pure (ps.zip us)) (hl : ∀ M ss C, R M ss C → ss.length = ps.length)
    (hbody : ∀ A outer s H E, Room k (A.deeper (envF F f s.heap.objs.size)) → ∃ t, PE (ncx (L2N.CX P w) P w K mg base N F f A outer s H E) e t ∧ ∀ M ss C, R M ss C → ∀ (F : Hp) L σ H (Q : VK), (∀ H1, Ok K F L σ H1 (st0 N ss) M → E (.ref C) none H1) → Ok K F L σ H (st0 N ss) M → t σ H Q) :
    LOk P w K mg base (L2N.CX P w) (k + 1) f F e ps (spE K R) := by
  refine lok_of S hcl hb (fun vs H Q E h => ?_) fun A outer s H vs Q E hr h => ?_
  · obtain ⟨L, M, ss, C, lv, hL, nd, hp, hm, hR, _⟩ := h
    rw [paired_len hp]; exact hl _ _ _ hR
  · obtain ⟨L, M, ss, C, lv, hL, nd, hp, hm, hR, q⟩ := h
    obtain ⟨t, h1, h2⟩ := hbody A outer s H E hr
    have sub : ∀ G : Hp, Same (hid L G) (hid (L ++ ad M) G) := fun G => hid_sub fun a ha => by
      rcases List.mem_append.mp ha with z | z
      · exact z
      · exact hL a z
    refine ⟨t, h1, ?_⟩
    rw [startF_start]
    refine h2 M ss C hR (hid (ad M) H) L _ H _ (fun H1 o1 => q H1 o1.fr (o1.mobs fun x hx => hx)) (ok_start (Paired.mapP hp fun _ _ z => z.mono (sub H)) lv (fun y hy => (hm y hy).mono (sub H) rfl) nd (hid_le _ _) fun a ha => hid_in ha)
end
end Wm

/-! isinstance of a caught error, == by an own __eq__, the law's loop with a code table, list.pop, repr of a bool. -/
namespace Wm
open PySem PySem.Spec PyProof.Rows L2
section
variable {K : PySem.W.Frag} {F F' H H' H0 H1 : Hp} {L : List Addr} {σ σ' : L2.St} {ρ ρ' : List Sl} {M M' M0 M1 M2 M3 Mn A B : Ms}
variable {te ta tb tc ti td ty tx tv : TE} {tt : TT} {tr tr' : TA} {s s1 s2 : Sl} {ss : List Sl} {d d1 d2 d3 : PyData} {ds es : List PyData} {D : Ends} {tu tw tz : TS} {p q C C0 : Addr} {fs : List (Str × Sl)} {m : Str} {E : XK} {Q : VK}
/-! ### isinstance of the error that is handled -/
theorem ev_isE {i : Nat} {D a c : Addr} {b : Bool} (he : ρ[i]? = some (.loc (.ref a))) (hk : PySem.W.kitOne K (.ref D) (.ref c) = some b) : Ev K (tCB (rIsE K D a) (tCons (tVar i) (tCons (tC (.ref c)) tNil))) ρ M (.dat (.bool b)) M := fun F L σ H o Q q => by
  obtain ⟨v, h1, h2⟩ := o.get he (fun z => nomatch z)
  have e : v = .ref a := h2
  subst e
  exact ⟨_, h1, .ref c, .ref c, b, rfl, fun u r => r, hk, q _ H o rfl (hid_le _ _) (.bl b)⟩
theorem ev_isET {i : Nat} {D a : Addr} {n : String} {b : Bool} (he : ρ[i]? = some (.loc (.ref a))) (hk : PySem.W.kitOne K (.ref D) (.type n) = some b) : Ev K (tCB (rIsE K D a) (tCons (tVar i) (tCons (tC (.ty n)) tNil))) ρ M (.dat (.bool b)) M := fun F L σ H o Q q => by
  obtain ⟨v, h1, h2⟩ := o.get he (fun z => nomatch z)
  have e : v = .ref a := h2
  subst e
  exact ⟨_, h1, .ty n, .type n, b, rfl, fun u r => r, hk, q _ H o rfl (hid_le _ _) (.bl b)⟩
end
/-! ### == by an own __eq__ -/
def rEqOwn (K : PySem.W.Frag) (C : Addr) (sp : Sp) (E : XK) : R2 := fun x y H Q => ∃ a dx fs b, x = .ref a ∧ y = .ref b ∧ H a = some (.ins C dx fs) ∧ ((∃ dy gs, H b = some (.ins C dy gs)) ∨ (∃ xs, Rd H b (.lst xs)) ∧ PySem.W.subIn K (.type "list") (.ref C) = some false) ∧ sp [x, y] H (fun v H' => ∃ c, v = .bl c ∧ Q (.bl c) H') E
theorem op_eqOwn {X : Cx} {CX : CXT} {C f : Addr} {fd : FuncData} {ps : List Str} {sp : Sp} {E : XK} {k : Nat} (F : FnOk X.prog X.w X.K X.mg X.base CX k f fd ps sp) (hr : Room k X.A)
    (hs : PySem.W.findIn X.K (.ref C) "__eq__" = some (some (.ref f))) (hf : PySem.W.isFn X.K (.ref f) = true) (hb : Binds X.K fd ps []) (hx : Passes CX X E) : OpR X (compareOp .Eq) (rEqOwn X.K C sp E) := by
  intro pins s σ H x y v u Q I rx ry h
  obtain ⟨a, dx, fs, b, rfl, rfl, ha, hy, hsp⟩ := h
  cases (show v = Value.ref a from rx)
  cases (show u = Value.ref b from ry)
  obtain ⟨mA, J, _⟩ := ins_get I.hok ha
  obtain ⟨od, J, _⟩ := J.look
  obtain ⟨m, hF⟩ := I.fr
  obtain ⟨tb, LB, hn⟩ : ∃ tb, PySem.W.Looks (model X.prog X.w) s.heap (typeOf (.ref b)) tb ∧ PySem.W.notFirst X.K C tb = true := by
    rcases hy with ⟨dy, gs, hb⟩ | ⟨⟨xs, hb⟩, hl⟩
    · obtain ⟨mB, J', _⟩ := ins_get I.hok hb
      obtain ⟨od', J', _⟩ := J'.look
      exact ⟨.ref C, J'.type, by simp [PySem.W.notFirst]⟩
    · refine ⟨.type "list", ?_, by simp [PySem.W.notFirst, hl]⟩
      rcases hb with hb | ⟨o, hb⟩
      · obtain ⟨P, Z, p, _⟩ := kit_of I (show RelV (.ref b) (Value.ref b) from rfl) (.base (.lst hb))
        exact Z.ty _ _ I.kIn p
      · obtain ⟨P, Z, p, _⟩ := kit_of I (show RelV (.ref b) (Value.ref b) from rfl) (.base (.frz hb))
        exact Z.ty _ _ I.kIn p
  show wpAny _ _ (richCompare .Eq (.ref a) (.ref b)) _ _ _
  refine PySem.W.cmp_K (op := .Eq) (tb := tb) hr.units0 hF I.ok.mod.kin J LB hn hs hf ?_
  refine wpAny_mono (run_fn (us := [.ref a, .ref b]) (vs := [.ref a, .ref b]) (dvs := []) F hr hb .nil hx I (.cons rfl (.cons rfl .nil)) hsp) (fun w s' z => ?_) fun _ _ x => x
  obtain ⟨z', H', I', rz, c, ez, qz⟩ := z
  subst ez
  exact SlX.cmpback rz ⟨_, H', I', rz, qz⟩
section
variable {K : PySem.W.Frag} {F F' H H' H0 H1 : Hp} {L : List Addr} {σ σ' : L2.St} {ρ ρ' : List Sl} {M M' M0 M1 M2 M3 Mn A B : Ms}
variable {te ta tb tc ti td ty tx tv : TE} {tt : TT} {tr tr' : TA} {s s1 s2 : Sl} {ss : List Sl} {d d1 d2 d3 : PyData} {ds es : List PyData} {D : Ends} {tu tw tz : TS} {p q C C0 : Addr} {fs gs : List (Str × Sl)} {m : Str} {E E' : XK} {Q : VK} {R : Ms → List Sl → PyData → Ms → Prop}
theorem Sw.mid (hn : ad Mn = ad M0) (nd : (ad (A ++ M0 ++ B)).Nodup) : Sw M0 Mn (A ++ M0 ++ B) (A ++ Mn ++ B) := by
  have e : ∀ X : Ms, ad (A ++ X ++ B) = ad A ++ ad X ++ ad B := fun X => by simp [ad]
  refine ⟨(List.sublist_append_right A M0).trans (List.sublist_append_left ..), by rw [e, e, hn], fun x hx => ?_⟩
  rw [e] at nd
  obtain ⟨n1, n2, n3⟩ := List.nodup_append.mp nd
  obtain ⟨_, _, n4⟩ := List.nodup_append.mp n1
  rcases List.mem_append.mp hx with z | z
  · rcases List.mem_append.mp z with z | z
    · exact .inr ⟨List.mem_append_left _ (List.mem_append_left _ z), fun z2 => n4 x.1 (List.mem_map.mpr ⟨x, z, rfl⟩) x.1 z2 rfl⟩
    · exact .inl z
  · exact .inr ⟨List.mem_append_right _ z, fun z2 => n3 x.1 (List.mem_append_right _ z2) x.1 (List.mem_map.mpr ⟨x, z, rfl⟩) rfl⟩
/-- what == gets: y an instance that is told, or a list -/
inductive EqArg (C : Addr) (M : Ms) : Sl → Prop
  | ins {b : Addr} {gs : List (Str × Sl)} (h : (b, MO.ins C gs) ∈ M) : EqArg C M (.loc (.ref b))
  | lst (ds : List PyData) : EqArg C M (.dat (.list ds))
theorem eq_run {x y : V} {b : Bool} (hl : PySem.W.subIn K (.type "list") (.ref C) = some false) (o : Ok K F L σ H ρ M) (hx : x = .ref p) (hp : (p, MO.ins C fs) ∈ M) (hy : SlOk K (hid (L ++ ad M) H) y s) (ha : EqArg C M s) (M0 : Ms) (w : M0.Sublist M) (hR : R M0 [.loc (.ref p), s] (.bool b) M0)
    (q : ∀ H1, Ok K F L σ H1 ρ M → Same (hid (ad M) H) H1 → Q (.bl b) H1) : rEqOwn K C (spMs K R) E x y H Q := by
  subst hx
  obtain ⟨dx, gs, h1, h2⟩ := o.ob _ hp
  have sub : ∀ a, a ∈ ad M0 → a ∈ ad M := fun a ha => (w.map Prod.fst).subset ha
  have fin : ∀ {c : Addr}, y = .ref c → ((∃ dy gs, H c = some (.ins C dy gs)) ∨ (∃ xs, Rd H c (.lst xs)) ∧ PySem.W.subIn K (.type "list") (.ref C) = some false) → rEqOwn K C (spMs K R) E (.ref p) y H Q := fun {c} ec hc => by
    subst ec
    refine ⟨p, dx, gs, c, rfl, rfl, h1, hc, L ++ ad M, M0, _, .bool b, M0, fun a ha => o.there ha, fun a ha => List.mem_append_right _ (sub a ha), List.Nodup.sublist (w.map _) o.nd, .cons (show SlOk K _ (V.ref p) (.loc (.ref p)) from rfl) (.cons hy .nil), fun x hx => o.ob x (w.subset hx), hR, rfl, fun v H2 s2 hm hv => ?_⟩
    have ev := bl_of (K := K) (H := hid (L ++ ad M) H2) hv
    obtain ⟨o2, s3⟩ := swap_ok o (fun nd => Sw.same w nd) s2 hm rfl
    exact ⟨b, ev, q H2 o2 s3⟩
  cases ha with
  | @ins c gs2 hc =>
    obtain ⟨dy, gs3, g1, _⟩ := o.ob _ hc
    exact fin (show y = .ref c from hy) (.inl ⟨dy, gs3, g1⟩)
  | lst ds =>
    obtain ⟨c, xs, e, g1, _⟩ : ∃ c xs, y = .ref c ∧ Rd (hid (L ++ ad M) H) c (.lst xs) ∧ DpAll K (hid (L ++ ad M) H) xs ds := by
      have hy' : Dp K (hid (L ++ ad M) H) y (.list ds) := hy
      cases hy' with
      | lst h1 h2 => exact ⟨_, _, rfl, h1, h2⟩
    exact fin e (.inr ⟨⟨xs, Rd.mono (hid_le _ _) g1⟩, hl⟩)
theorem ev_eqOwn {b : Bool} (hl : PySem.W.subIn K (.type "list") (.ref C) = some false) (hx : Ev K ta ρ M (.loc (.ref p)) M) (hp : (p, MO.ins C fs) ∈ M) (hy : Ev K tb ρ M s M) (ha : EqArg C M s) (M0 : Ms) (w : M0.Sublist M) (hR : R M0 [.loc (.ref p), s] (.bool b) M0) :
    Ev K (tOp (rEqOwn K C (spMs K R) E) ta tb) ρ M (.dat (.bool b)) M := fun F L σ H o Q q =>
  hx.two hy o fun x y H2 o2 e2 a2 hx2 hy2 => eq_run hl o2 (show x = .ref p from hx2) hp hy2 ha M0 w hR fun H3 o3 a3 => q _ H3 o3 rfl (chain2 rfl a2 a3) (.bl b)
/-- .. with an instance just made -/
theorem ev_eqMake {b : Bool} {R' : List PyData → (Addr → List (Str × Sl)) → MO → Prop} {fO : Addr → List (Str × Sl)} {qO : MO} (hl : PySem.W.subIn K (.type "list") (.ref C) = some false) (hx : Ev K ta ρ M (.loc (.ref p)) M) (hp : (p, MO.ins C fs) ∈ M) (ha : EvA K tr ρ M (ds.map Sl.dat) M) (hR' : R' ds fO qO) (M0 : Ms) (w : M0.Sublist M)
    (hR : ∀ p' q', R (M0 ++ [(p', .ins C (fO q')), (q', qO)]) [.loc (.ref p), .loc (.ref p')] (.bool b) (M0 ++ [(p', .ins C (fO q')), (q', qO)])) :
    Ev K (tOp (rEqOwn K C (spMs K R) E) ta (tMake C (spI K C R') [] E' tr)) ρ M (.dat (.bool b)) M := fun F L σ H o Q q => hx F L σ H o _ fun x H1 o1 e1 a1 x1 => make_ok ha hR' o1 fun p' q' H2 hFp hFq o2 e2 a2 => by
  refine eq_run (M := M ++ [(p', .ins C (fO q')), (q', qO)]) hl o2 (show x = .ref p from x1) (List.mem_append_left _ hp) (s := .loc (.ref p')) rfl (.ins (List.mem_append_right _ List.mem_cons_self)) (M0 ++ [(p', .ins C (fO q')), (q', qO)]) (w.append (List.Sublist.refl _)) (hR p' q') fun H3 o3 a3 => ?_
  refine q _ H3 o3.forget rfl (fun a y e => ?_) (.bl b)
  obtain ⟨n, e'⟩ := hid_some e
  have e4 := a1 _ _ e
  have e5 := a2 _ _ (hid_of n e4)
  refine a3 _ _ (hid_of (fun z => ?_) e5)
  rw [show ad (M ++ [(p', .ins C (fO q')), (q', qO)]) = ad M ++ [p', q'] from List.map_append ..] at z
  rcases List.mem_append.mp z with z | z
  · exact n z
  · have e6 := hid_of n e4
    rcases List.mem_cons.mp z with z | z
    · rw [z, hFp] at e6; cases e6
    · rw [List.mem_singleton.mp z, hFq] at e6; cases e6
end
/-! ### list.pop, repr of a bool -/
theorem call_repr_bool {X : Cx} : CallR X (.builtin "repr") (fun xs H Q => ∃ b : Bool, xs = [.bl b] ∧ Q (.str (if b then "True" else "False")) H) := by
  intro pins s σ H xs us Q I r h
  obtain ⟨b, rfl, q⟩ := h
  obtain ⟨u, rfl, ru⟩ := r.one
  cases (show u = Value.bool b from ru)
  exact PySem.P.repr_of_bool ⟨.str _, H, I.tok _, ⟨_, rfl⟩, q⟩
section
variable {K : PySem.W.Frag} {F F' H H' H0 H1 : Hp} {L : List Addr} {σ σ' : L2.St} {ρ ρ' : List Sl} {M M' M0 M1 M2 M3 Mn A B : Ms}
variable {te ta tb tc ti td ty tx tv : TE} {tt : TT} {tr tr' : TA} {s s1 s2 : Sl} {ss : List Sl} {d d1 d2 d3 : PyData} {ds es : List PyData} {D : Ends} {tu tw tz : TS} {p q C C0 : Addr}
theorem ev_repr {b : Bool} (h : Ev K te ρ M (.dat (.bool b)) M) : Ev K (tCB (fun xs H Q => ∃ b : Bool, xs = [.bl b] ∧ Q (.str (if b then "True" else "False")) H) (tCons te tNil)) ρ M (.dat (.str (if b then "True" else "False"))) M := fun F L σ H o Q q => h F L σ H o _ fun x H1 o1 e1 a1 x1 =>
  ⟨b, by rw [bl_of x1], q _ H1 o1 e1 a1 (.str _)⟩
/-- l.pop(), as a statement -/
theorem s_pop {j : Nat} (ha : Ev K ta ρ M (.loc (.ref p)) M) (hj : M[j]? = some (p, .lst (ds ++ [d]))) (k : ∀ σ H, Ok K F L σ H ρ (M.set j (p, .lst ds)) → D.nx σ H) (o : Ok K F L σ H ρ M) : tDrop (tBM0 K "list" rPop ta) D σ H := ha F L σ H o _ fun x H1 o1 e1 a1 x1 => by
  have ex : x = .ref p := x1
  subst ex
  obtain ⟨vs, h1, h2⟩ := o1.ob _ (List.mem_of_getElem? hj)
  have hl : vs.length = ds.length + 1 := by rw [h2.length, List.length_append]; rfl
  obtain ⟨y, hy⟩ : ∃ y, vs[vs.length - 1]? = some y := ⟨vs[vs.length - 1]'(by omega), List.getElem?_eq_getElem (by omega)⟩
  refine ⟨.inl ⟨rfl, vs, SqL.of h1⟩, p, vs, y, rfl, rfl, h1, hy, k _ _ (o1.change hj (same_hid_upd (by simp)) ⟨_, upd_same, ?_⟩ (live_upd o1))⟩
  rw [hid_upd (List.mem_append_right _ (mem_ad hj))]
  have z := h2.take ds.length
  rw [List.take_left] at z
  rw [List.dropLast_eq_take, hl]
  exact z
/-- e.append(x), e a new list -/
theorem s_appNew (ha : EvN K ta ρ M ds M) (h : Ev K te ρ M (.dat d) M) (hz : ds.length < 1000000) (k : ∀ σ H, Ok K F L σ H ρ M → D.nx σ H) (o : Ok K F L σ H ρ M) : tDrop (tBM K "list" rAppend ta (tCons te tNil)) D σ H := ha F L σ H o _ fun p vs H1 hp o1 e1 a1 h1 h2 => by
  refine ⟨.inl ⟨rfl, vs, SqL.of h1⟩, h F (p :: L) σ H1 o1 _ fun y H2 o2 e2 a2 y2 => ?_⟩
  have pL : p ∉ ad M := fun z => by
    have := o.there (List.mem_append_right L z)
    exact this hp
  have h3 : H2 p = some (.lst vs) := a2 _ _ (hid_of pL h1)
  refine ⟨p, vs, y, rfl, rfl, h3, by rw [h2.length]; exact line_lt hz, k _ _ ?_⟩
  have vis : Same (hid ((p :: L) ++ ad M) H2) (hid (L ++ ad M) (upd H2 p (.lst (vs ++ [y])))) := fun b z e => by
    obtain ⟨n, e3⟩ := hid_some e
    have nb : b ≠ p := fun w => n (by rw [w]; exact List.mem_append_left _ List.mem_cons_self)
    refine hid_of (fun w => n ?_) (by rw [upd_ne nb]; exact e3)
    rcases List.mem_append.mp w with w | w
    · exact List.mem_append_left _ (List.mem_cons_of_mem _ w)
    · exact List.mem_append_right _ w
  refine ⟨Paired.mapP o2.sl fun _ _ q => q.mono vis, fun x hx => ?_, o2.nd, fun a z e => ?_, o2.fn, fun a ha => ?_⟩
  · have nx : x.1 ≠ p := fun w => pL (by rw [← w]; exact List.mem_map.mpr ⟨x, hx, rfl⟩)
    exact (o2.ob x hx).mono vis (upd_ne nx)
  · have na : a ≠ p := fun w => by
      rw [w] at e
      have := o.fr _ _ e
      rw [hp] at this; cases this
    rw [upd_ne na]; exact o2.fr a z e
  · by_cases na : a = p
    · rw [na, upd_same]; exact fun z => nomatch z
    · rw [upd_ne na]; exact o2.lv a (List.mem_cons_of_mem _ ha)
end
/-! ### methods that make a new list -/
def spMsN (K : PySem.W.Frag) (R : Ms → List Sl → List PyData → Ms → Prop) : Sp := fun vs H Q _ => ∃ L M ss rs M', (∀ a ∈ L, H a ≠ none) ∧ (∀ a ∈ ad M, a ∈ L) ∧ (ad M).Nodup ∧ Paired (SlOk K (hid L H)) vs ss ∧ (∀ x ∈ M, MOk K (hid L H) H x.1 x.2) ∧ R M ss rs M' ∧ ad M' = ad M ∧
  ∀ p us H1, H p = none → Same (hid (ad M) H) H1 → (∀ x ∈ M', MOk K (hid (p :: L) H1) H1 x.1 x.2) → H1 p = some (.lst us) → DpAll K (hid (p :: L) H1) us rs → Q (.ref p) H1
theorem okMsN {P : Program} {w : World} {K : PySem.W.Frag} {mg : Str → Option Value} {base : Heap} {x qual : Str} {st : Stmt} {f : Addr} {fd : FuncData} {N ps : List Str} {k : Nat} {R : Ms → List Sl → List PyData → Ms → Prop} (Fn : Fun K x qual st f fd) (S : FnScope N ps (defScope st)) (hl : ∀ M ss r M', R M ss r M' → ss.length = ps.length)
    (hb : ∀ cdv A outer s H E, Room k (A.deeper (envOfC qual (defScope st) s.heap.objs.size f cdv)) → ∃ te, PSs (cxOf CX0 P w K mg base N qual (defScope st) f cdv A outer s H E).nox (defBody st) (tRet te) ∧
      ∀ M ss rs M', R M ss rs M' → EvN K te (st0 N ss) M rs M') :
    FnOk P w K mg base CX0 (k + 1) f fd ps (spMsN K R) := by
  refine Fn.ok S (fun vs H Q E h => ?_) (fun cdv A outer s H vs Q E hr h => ?_)
  · obtain ⟨L, M, ss, r, M', lv, hL, nd, hp, hm, hR, _⟩ := h
    rw [paired_len hp]; exact hl _ _ _ _ hR
  · obtain ⟨L, M, ss, rs, M', lv, hL, nd, hp, hm, hR, ea, q⟩ := h
    obtain ⟨te, h1, h2⟩ := hb cdv A outer s H E hr
    have sub : ∀ G : Hp, Same (hid L G) (hid (L ++ ad M) G) := fun G => hid_sub fun a ha => by
      rcases List.mem_append.mp ha with z | z
      · exact z
      · exact hL a z
    refine ⟨_, h1, h2 M ss rs M' hR (hid (ad M) H) L _ H (ok_start (Paired.mapP hp fun _ _ z => z.mono (sub H)) lv (fun y hy => (hm y hy).mono (sub H) rfl) nd (hid_le _ _) fun a ha => hid_in ha) _ fun p us H1 hp1 o1 e1 a1 g1 g2 => ?_⟩
    refine q p us H1 hp1 a1 (fun x hx => (o1.ob x hx).mono (hid_sub fun _ z => List.mem_append_left _ z) rfl) g1 (DpAll.mono (hid_sub fun a ha => ?_) g2)
    rcases List.mem_cons.mp ha with z | z
    · rw [z]; exact List.mem_cons_self
    · exact List.mem_cons_of_mem _ (List.mem_append_left _ z)
section
variable {K : PySem.W.Frag} {F F' H H' H0 H1 : Hp} {L : List Addr} {σ σ' : L2.St} {ρ ρ' : List Sl} {M M' M0 M1 M2 M3 Mn A B : Ms}
variable {te ta tb tc ti td ty tx tv : TE} {tt : TT} {tr tr' : TA} {s s1 s2 : Sl} {ss : List Sl} {d d1 d2 d3 : PyData} {ds es rs : List PyData} {D : Ends} {tu tw tz : TS} {p q C C0 : Addr} {fs : List (Str × Sl)} {m : Str} {E : XK}
theorem evn_methMsN {R : Ms → List Sl → List PyData → Ms → Prop} (ho : Ev K ta ρ M (.loc (.ref p)) M) (hp : (p, MO.ins C fs) ∈ M) (hl : fs.lookup m = none) (ha : EvA K tr ρ M ss M) (M0 : Ms) (w : M0.Sublist M) (hR : R M0 (.loc (.ref p) :: ss) rs M0) : EvN K (tMeth C m (spMsN K R) [] E ta tr) ρ M rs M := fun F L σ H o Q q => ho F L σ H o _ fun x H0 o0 e0 a0 x0 => by
  have ex : x = .ref p := x0
  subst ex
  obtain ⟨dx, gs, h1, h2⟩ := o0.ob _ hp
  refine ⟨p, dx, gs, rfl, h1, FF.none h2 hl, ha F L σ H0 o0 _ fun vs H1 o1 e1 a1 x1 => ?_⟩
  have sub : ∀ a, a ∈ ad M0 → a ∈ ad M := fun a ha => (w.map Prod.fst).subset ha
  refine ⟨L ++ ad M, M0, _, rs, M0, fun a ha => o1.there ha, fun a ha => List.mem_append_right _ (sub a ha), List.Nodup.sublist (w.map _) o1.nd, by rw [List.append_nil]; exact .cons (show SlOk K _ (V.ref p) (.loc (.ref p)) from rfl) x1, fun x hx => o1.ob x (w.subset hx), hR, rfl, fun p' us H2 hp' s2 hm g1 g2 => ?_⟩
  have pn : p' ∉ L ++ ad M := o1.fresh hp'
  have vis : Same (hid (L ++ ad M) H1) (hid ((p' :: L) ++ ad M) H2) := fun b z e => by
    obtain ⟨n, e3⟩ := hid_some e
    refine hid_of (fun w => ?_) (s2 _ _ (hid_of (fun w => n (List.mem_append_right _ (sub b w))) e3))
    rcases List.mem_append.mp w with w | w
    · rcases List.mem_cons.mp w with w | w
      · rw [w, hp'] at e3; cases e3
      · exact n (List.mem_append_left _ w)
    · exact n (List.mem_append_right _ w)
  have s3 : Same (hid (ad M) H1) H2 := fun a x e => s2 a x (hid_sub sub _ _ e)
  have c3 := chain2 rfl (chain2 rfl a0 a1) s3
  have o2 : Ok K F (p' :: L) σ H2 ρ M := by
    refine ⟨Paired.mapP o1.sl fun _ _ q => q.mono vis, fun x hx => ?_, o1.nd, fun a z e => ?_, o1.fn, fun a ha => ?_⟩
    · rcases (Sw.same w o1.nd).mem x hx with z | ⟨_, z2⟩
      · exact hm x z
      · obtain ⟨y, e⟩ := (o1.ob x hx).there
        exact (o1.ob x hx).mono vis ((s2 _ _ (hid_of z2 e)).trans e.symm)
    · refine s3 a z (hid_of (fun w => ?_) (o1.fr a z e))
      rw [o1.fn a w] at e; cases e
    · rcases List.mem_cons.mp ha with w2 | w2
      · rw [w2, g1]; exact fun z => nomatch z
      · by_cases e : a ∈ ad M0
        · obtain ⟨y, hy, e2⟩ := List.mem_map.mp e
          obtain ⟨z, ez⟩ := (hm y hy).there
          rw [← e2, ez]; exact fun z => nomatch z
        · intro z
          cases e3 : H1 a with
          | none => exact o1.lv a w2 e3
          | some y => rw [s2 a y (hid_of e e3)] at z; cases z
  refine q p' us H2 ?_ o2 rfl c3 g1 g2
  cases e : H p' with
  | none => rfl
  | some y =>
    have z := (chain2 rfl a0 a1) p' y (hid_of (fun z => pn (List.mem_append_right _ z)) e)
    rw [hp'] at z; cases z
end
/-! ### the law's loop, a code table beside -/
section
variable {K : PySem.W.Frag} {F F' H H' H0 H1 : Hp} {L : List Addr} {σ σ' : L2.St} {ρ ρ' : List Sl} {M M' : Ms} {te : TE} {tu tv : TS} {D : Ends} {n : Nat}
theorem Ok.pickM (o : Ok K F L σ H ρ []) (hM : ∀ x ∈ M, x.1 ∈ L ∧ MOk K (hid L H) H x.1 x.2 ∧ F' x.1 = none) (nd : (ad M).Nodup) (sF : Same F' H) : Ok K F' L σ H ρ M := by
  have sub : ∀ a, a ∈ L ++ ad M → a ∈ L := fun a ha => by
    rcases List.mem_append.mp ha with z | z
    · exact z
    · obtain ⟨x, hx, e⟩ := List.mem_map.mp z
      rw [← e]; exact (hM x hx).1
  have e0 : L ++ ad ([] : Ms) = L := by simp
  refine ⟨Paired.mapP o.sl fun _ _ q => ?_, fun y hy => (hM y hy).2.1.mono (hid_sub sub) rfl, nd, sF, fun q hq => ?_, o.lv⟩
  · rw [e0] at q; exact q.mono (hid_sub sub)
  · obtain ⟨x, hx, e⟩ := List.mem_map.mp hq
    rw [← e]; exact (hM x hx).2.2
theorem q_bagsT {j : Nat} {bd : Nat → List PyData} {P : Addr} {nm : Nat → Nat → Str} (J : List Sl → Prop) (h : EvB K te ρ n bd) (h0 : J ρ)
    (hs : ∀ F' L' i p ρ (D' : Ends), i < n → J ρ → (∀ ρ M σ H, J ρ → (P, MO.tab nm) ∈ M → Ok K F' L' σ H ρ M → D'.nx σ H) → ∀ σ H, Ok K F' L' σ H (ρ.set j (.loc (.ref p))) [(p, .lst (bd i)), (P, .tab nm)] → tu D' σ H)
    (hd : ∀ ρ, J ρ → ∀ σ H, Ok K F L σ H ρ [] → tv D σ H) (o : Ok K F L σ H ρ [(P, .tab nm)]) : tSeq (tFor (iList K te) (gName j) tu) tv D σ H := h F (P :: L) σ H o.dropM _ fun a ps H1 sH1 hb o1 => by
  obtain ⟨b1, b2, b3, b4, b5, b6⟩ := hb
  have tab0 := o.ob (P, .tab nm) List.mem_cons_self
  have hP : H P ≠ none := by obtain ⟨x, e⟩ := tab0.there; rw [e]; exact fun z => nomatch z
  have hFP : F P = none := o.fn P (by simp [ad])
  have nPa : P ≠ a := fun z => hP (z ▸ b1)
  have nPp : P ∉ ps := fun z => hP (b2 P z)
  have hFp : ∀ p ∈ ps, F p = none := fun p hp => o.fr.free (b2 p hp)
  have tab1 : MOk K (hid (a :: (ps ++ (P :: L))) H1) H1 P (.tab nm) := by
    obtain ⟨x, e⟩ := tab0.there
    refine tab0.mono (fun b y e2 => ?_) ((sH1 _ _ e).trans e.symm)
    obtain ⟨n1, e3⟩ := hid_some e2
    refine hid_of (fun z => ?_) (sH1 _ _ e3)
    rcases List.mem_cons.mp z with z | z
    · rw [z, b1] at e3; cases e3
    · rcases List.mem_append.mp z with z | z
      · rw [b2 b z] at e3; cases e3
      · refine n1 ?_
        rcases List.mem_cons.mp z with z | z
        · exact List.mem_append_right _ (by simp [ad, z])
        · exact List.mem_append_left _ z
  refine ⟨a, rfl, ⟨ps.map V.ref, SqL.of b5⟩, for_list (K := K) (a := a) (xs := ps.map V.ref) (fun i σ H' => ∃ ρ L2, J ρ ∧ (∀ x, x ∈ a :: (ps ++ (P :: L)) → x ∈ L2) ∧ Ok K F L2 σ H' ρ [] ∧ H' a = some (.lst (ps.map V.ref)) ∧ MOk K (hid L2 H') H' P (.tab nm) ∧ ∀ k (p : Addr), i ≤ k → ps[k]? = some p → MOk K (hid L2 H') H' p (.lst (bd k)))
    ⟨ρ, a :: (ps ++ (P :: L)), h0, fun _ z => z, o1, b5, tab1, fun k p _ hk => b6 k p hk⟩ (fun i σ H' _ ⟨_, _, _, _, _, ha, _⟩ => SqL.of ha) ?_ ?_⟩
  · rintro i x σ2 H2 hx ⟨ρ2, L2, hJ, hL, o2, ha, ht, hm⟩
    rw [List.getElem?_map] at hx
    cases hp : ps[i]? with
    | none => rw [hp] at hx; cases hx
    | some p =>
      rw [hp] at hx
      have ex : x = .ref p := (Option.some.inj hx).symm
      subst ex
      have pm : p ∈ ps := List.mem_of_getElem? hp
      have hi : i < n := by rw [← b4]; exact (List.getElem?_eq_some_iff.mp hp).1
      have pL : p ∈ L2 := hL p (List.mem_cons_of_mem _ (List.mem_append_left _ pm))
      have PL : P ∈ L2 := hL P (List.mem_cons_of_mem _ (List.mem_append_right _ List.mem_cons_self))
      have nap : a ≠ p := fun e => by rw [List.nodup_cons] at b3; rw [e] at b3; exact b3.1 pm
      have npP : p ≠ P := fun e => nPp (e ▸ pm)
      have o3 : Ok K (hid [p, P] H2) L2 (σ2.set j (some (.ref p))) H2 (ρ2.set j (.loc (.ref p))) [(p, .lst (bd i)), (P, .tab nm)] := by
        refine Ok.pickM (Ok.set (s := .loc (.ref p)) o2 rfl) (fun x hx => ?_) (by simp [ad, npP]) (hid_le _ _)
        rcases List.mem_cons.mp hx with z | z
        · rw [z]; exact ⟨pL, hm i p (Nat.le_refl _) hp, hid_in (by simp)⟩
        · rw [List.mem_singleton.mp z]; exact ⟨PL, ht, hid_in (by simp)⟩
      refine hs (hid [p, P] H2) L2 i p ρ2 _ hi hJ (fun ρ3 M3 σ3 H3 hJ3 hM3 o4 => ?_) _ _ o3
      have o5 := o4.dropM
      have sF : Same F (hid [p, P] H2) := fun b y e => hid_of (fun z => by
        rcases List.mem_cons.mp z with z | z
        · rw [z, hFp p pm] at e; cases e
        · rw [List.mem_singleton.mp z, hFP] at e; cases e) (o2.fr b y e)
      refine ⟨ρ3, ad M3 ++ L2, hJ3, fun x hx => List.mem_append_right _ (hL x hx), o5.unfr sF, o4.fr _ _ (hid_of (by simp [nap, Ne.symm nPa]) ha), (o4.ob _ hM3).mono (hid_sub fun a ha => ?_) rfl, fun k q hk hq => ?_⟩
      · rcases List.mem_append.mp ha with z | z
        · exact List.mem_append_right _ z
        · exact List.mem_append_left _ z
      have nqp : q ≠ p := fun e => by
        rw [List.nodup_cons] at b3
        have h1 := hq
        rw [e] at h1
        have := (List.getElem?_inj (List.getElem?_eq_some_iff.mp hp).1 b3.2).mp (hp.trans h1.symm)
        omega
      have nqP : q ≠ P := fun e => nPp (e ▸ List.mem_of_getElem? hq)
      refine (hm k q (by omega) hq).mono (fun b y e => ?_) ?_
      · obtain ⟨n1, e1⟩ := hid_some e
        have nb : b ≠ p := fun z => n1 (by rw [z]; exact pL)
        have nB : b ≠ P := fun z => n1 (by rw [z]; exact PL)
        have e2 : hid [p, P] H2 b = some y := hid_of (by simp [nb, nB]) e1
        refine hid_of (fun z => ?_) (o4.fr _ _ e2)
        rcases List.mem_append.mp z with z | z
        · rw [o4.fn b z] at e2; cases e2
        · exact n1 z
      · obtain ⟨z, ez⟩ := (hm k q (by omega) hq).there
        rw [ez]; exact o4.fr _ _ (hid_of (by simp [nqp, nqP]) ez)
  · rintro σ2 H2 ⟨ρ2, L2, hJ, hL, o2, _, _⟩
    exact hd ρ2 hJ σ2 H2 (o2.less fun x hx => hL x (List.mem_cons_of_mem _ (List.mem_append_right _ (List.mem_cons_of_mem _ hx))))
end
/-- what the law promises, its own table of code objects empty -/
def spLawT (K : PySem.W.Frag) (P : Addr) : Sp := fun vs H Q _ => ∃ (a : Addr) (ns : List Int), vs = [.ref a] ∧ SqL K H a (ns.map V.int) ∧ H P = some (.tbl #[]) ∧ ns.length ≤ 63 ∧ ∀ H', Q (.bl true) H'
theorem okLawT {P : Program} {w : World} {K : PySem.W.Frag} {mg : Str → Option Value} {base : Heap} {st : Stmt} {x : Str} {f c T : Addr} {dV kV doc pm ct oc : Value} {an od : Option Addr} {osl : Array (Option Value)} {N ps : List Str} {k : Nat} {nm : Nat → Nat → Str}
    (lk : K.lookup f = some ⟨oc, od, .func (PySem.W.fnOf x x (defArgs st) (defBody st) (defScope st) dV kV doc pm an (.ref c) ct), osl⟩) (hcd : PySem.W.codeIn K (.ref c) x = true) (S : FnScope N ps (defScope st)) (hl : ps.length = 1)
    (hb : ∀ A outer s H E, Room k (A.deeper (envOfC x (defScope st) s.heap.objs.size f (.ref c))) → ∃ t, PSs (cxOf CX0 P w K mg base N x (defScope st) f (.ref c) A outer s H E).nox (defBody st) t ∧
      ∀ xs : List Int, xs.length ≤ 63 → ∀ (F : Hp) L σ H (D : Ends), (∀ H', D.rt (.bl true) H') → Ok K F L σ H (st0 N [.dat (dScr xs)]) [(T, .tab nm)] → t D σ H) :
    FnOk P w K mg base CX0 (k + 1) f (PySem.W.fnOf x x (defArgs st) (defBody st) (defScope st) dV kV doc pm an (.ref c) ct) ps (spLawT K T) := by
  refine fn_of lk hcd S (fun vs H Q E h => ?_) fun A outer s H vs Q E hr h => ?_
  · obtain ⟨a, ns, rfl, _⟩ := h
    rw [hl]; rfl
  · obtain ⟨a, ns, rfl, hS, hT, hl, q⟩ := h
    obtain ⟨t, h1, h2⟩ := hb A outer s H E hr
    refine ⟨t, h1.nox, h2 ns hl (hid [T] H) [] _ H _ q (ok_start (.cons ?_ .nil) (fun p hp => by simp at hp) (fun x hx => ?_) (by simp [ad]) (hid_le _ _) (fun p hp => hid_in (by simpa [ad] using hp)))⟩
    · refine Dp.scr ?_
      rcases hS with hS | hS
      · refine .inl ?_
        rcases hS with hS | ⟨o, hS⟩
        · refine .inl (hid_of (fun z => ?_) hS)
          have e : a = T := by simpa [ad] using z
          rw [e, hT] at hS; cases hS
        · refine .inr ⟨o, hid_of (fun z => ?_) hS⟩
          have e : a = T := by simpa [ad] using z
          rw [e, hT] at hS; cases hS
      · exact .inr hS
    · have e : x = (T, .tab nm) := by simpa using hx
      subst e
      refine ⟨#[], hT, True.intro, fun pos cv z => ?_⟩
      have z' : codeAmong pos [] = some cv := z
      simp [codeAmong] at z'
end Wm

/-! a search deed by deed: what the walks need besides. -/
namespace Wm
open PySem PySem.Spec PyProof.Rows L2
/-- what isinstance asks of a class whose instances it gets; the class in the middle of == -/
structure IsC (K : PySem.W.Frag) (C : Addr) : Prop where
  cl : Cls K C
  ha : PySem.W.findIn K (.ref C) "__class__" = some (some (.builtin "object.__class__"))
  hn : PySem.W.specialIn K (.builtin "object.__class__") "__get__" = some (some (.builtin "getset_descriptor.__get__"))
  ht : PySem.W.takesIn K (.builtin "object.__class__") = some true
  hm : PySem.W.mroIn K C (.type "object") = some true
  ks : PySem.W.kitOne K (.ref C) (.ref C) = some true
  kl : PySem.W.kitOne K (.type "list") (.ref C) = some false
  sl : PySem.W.subIn K (.type "list") (.ref C) = some false
theorem takes_never {X : Cx} : L2N.Takes X (fun _ _ _ _ => False) := fun _ _ ⟨_, _, _, _, _, _, _, _, _, _, _, _, _, _, _, _, w⟩ => w.elim
/-- the suite of a clause that holds an error of an own class -/
theorem suite_ex {X : Cx} {K : PySem.W.Frag} {oe : Obj} {cls : Value} {d : Option Addr} {ss : List Stmt} {t : Addr → TS} (hz : L2N.Zn cls d oe) (h : ∀ C, ExcC K C → L2N.Zn (.ref C) none oe → PSs X ss (t C)) : PSs X ss (fun D σ H => ∃ C, cls = .ref C ∧ d = none ∧ ExcC K C ∧ t C D σ H) :=
  ⟨fun pins s σ H D I ⟨C, e1, e2, xc, ht⟩ => by subst e1 e2; exact (h C xc hz).run pins s σ H D I ht⟩
section
variable {X : Cx} {K' : PySem.W.Frag} (hK : X.K = K')
include hK
theorem w_isE {a D : Addr} {oe : Obj} {pn : List (Addr × Obj)} (C : ExcC K' D) (hz : L2N.Zn (.ref D) none oe) (hf : ∃ vs, oe.data = .fields vs) : CallR (X.suite a ((a, oe) :: pn)) (.builtin "isinstance") (rIsE K' D a) := by
  subst hK; exact call_isE C hz.zc hf
theorem wi_listX {tg l : Expr} {tl : TE} (hl : PE X l tl) : PIX X tg l (iList K' tl) := hK ▸ pi_listX hl
theorem w_eqOwn {CX : CXT} {C f : Addr} {fd : FuncData} {ps : List Str} {sp : Sp} {E : XK} {k : Nat} (F : FnOk X.prog X.w X.K X.mg X.base CX k f fd ps sp) (hr : Room k X.A)
    (hs : PySem.W.findIn X.K (.ref C) "__eq__" = some (some (.ref f))) (hf : PySem.W.isFn X.K (.ref f) = true) (hb : Binds X.K fd ps []) (hx : Passes CX X E) : OpR X (compareOp .Eq) (rEqOwn K' C sp E) := by
  subst hK; exact op_eqOwn F hr hs hf hb hx
end
section
variable {P : Program} {w : World} {K : PySem.W.Frag} {mg : Str → Option Value} {base : Heap} {CX : CXT} {k : Nat} {f : Addr} {F : NdefX.NF} {e : Expr} {ps : List Str} {sp sp' : Sp}
theorem lok_or (a : LOk P w K mg base CX k f F e ps sp) (b : LOk P w K mg base CX k f F e ps sp') : LOk P w K mg base CX k f F e ps (fun vs H Q E => sp vs H Q E ∨ sp' vs H Q E) :=
  ⟨fun vs H Q E h => h.elim (a.len _ _ _ _) (b.len _ _ _ _), fun A outer s H us vs Q E hr e0 hf hc r h => h.elim (a.run A outer s H us vs Q E hr e0 hf hc r) (b.run A outer s H us vs Q E hr e0 hf hc r)⟩
theorem FnOk.imp {fd : FuncData} (a : FnOk P w K mg base CX k f fd ps sp) (h : ∀ vs H Q E, sp' vs H Q E → sp vs H Q E) : FnOk P w K mg base CX k f fd ps sp' :=
  ⟨fun vs H Q E z => a.len _ _ _ _ (h _ _ _ _ z), fun A outer s H args us vs Q E hr e0 hb r z => a.run A outer s H args us vs Q E hr e0 hb r (h _ _ _ _ z)⟩
theorem fnOk_xor {fd : FuncData} {R R' : Ms → List Sl → Addr → Prop} (a : FnOk P w K mg base CX k f fd ps (spE K R)) (b : FnOk P w K mg base CX k f fd ps (spE K R')) : FnOk P w K mg base CX k f fd ps (spE K fun M ss C => R M ss C ∨ R' M ss C) :=
  FnOk.imp (fnOk_or a b) fun _ _ _ _ h => spE_or h
end
section
variable {K : PySem.W.Frag} {F F' H H' H0 H1 : Hp} {L : List Addr} {σ σ' : L2.St} {ρ ρ' : List Sl} {M M' M0 M1 M2 M3 Mn A B : Ms}
variable {te ta tb tc ti td ty tx tv : TE} {tt : TT} {tr tr' : TA} {s s1 s2 : Sl} {ss : List Sl} {d d1 d2 d3 : PyData} {ds es ds1 ds2 : List PyData} {D : Ends} {tu tw tz : TS} {p q C C0 : Addr} {fs : List (Str × Sl)} {m : Str} {E E' E1 E2 : XK} {Q : VK}
/-- behind an except suite its name is gone -/
theorem Ok.unset (o : Ok K F L σ H ρ M) {i : Nat} : Ok K F L (σ.set i none) H (ρ.set i .un) M := { o with sl := paired_set (.inl rfl) i o.sl }
theorem q_appNew (ha : EvN K ta ρ M ds M) (h : Ev K te ρ M (.dat d) M) (hz : ds.length < 1000000) (k : ∀ σ H, Ok K F L σ H ρ M → tz D σ H) (o : Ok K F L σ H ρ M) : tSeq (tDrop (tBM K "list" rAppend ta (tCons te tNil))) tz D σ H := s_appNew (D := { D with nx := tz D }) ha h hz k o
theorem q_pop {j : Nat} (ha : Ev K ta ρ M (.loc (.ref p)) M) (hj : M[j]? = some (p, .lst (ds ++ [d]))) (k : ∀ σ H, Ok K F L σ H ρ (M.set j (p, .lst ds)) → tz D σ H) (o : Ok K F L σ H ρ M) : tSeq (tDrop (tBM0 K "list" rPop ta)) tz D σ H := s_pop (D := { D with nx := tz D }) ha hj k o
theorem q_par3 {i j l : Nat} {s3 : Sl} (h : EvA K tr ρ M [s1, s2, s3] M1) (k : ∀ σ H, Ok K F L σ H (((ρ.set i s1).set j s2).set l s3) M1 → tz D σ H) (o : Ok K F L σ H ρ M) : tSeq (tPar3 i j l tr) tz D σ H := s_par3 (D := { D with nx := tz D }) h k o
/-- x, y, z = C(..), C(..), d -/
theorem q_par3M {i j l : Nat} {R1 R2 : List PyData → (Addr → List (Str × Sl)) → MO → Prop} {f1 f2 : Addr → List (Str × Sl)} {q1 q2 : MO} (ha1 : EvA K tr ρ M (ds1.map Sl.dat) M) (hR1 : R1 ds1 f1 q1) (ha2 : ∀ M, EvA K tr' ρ M (ds2.map Sl.dat) M) (hR2 : R2 ds2 f2 q2) (h3 : ∀ M, Ev K te ρ M (.dat d) M)
    (k : ∀ p q p' q' σ H, Ok K F L σ H (((ρ.set i (.loc (.ref p))).set j (.loc (.ref p'))).set l (.dat d)) (M ++ [(p, .ins C (f1 q)), (q, q1)] ++ [(p', .ins C0 (f2 q')), (q', q2)]) → tz D σ H) (o : Ok K F L σ H ρ M) :
    tSeq (tPar3 i j l (tCons (tMake C (spI K C R1) [] E1 tr) (tCons (tMake C0 (spI K C0 R2) [] E2 tr') (tCons te tNil)))) tz D σ H :=
by
  delta tSeq tPar3 tCons
  dsimp only
  refine make_ok ha1 hR1 o fun p q H1 _ _ o1 _ _ => ?_
  refine make_ok (ha2 _) hR2 o1 fun p' q' H2 _ _ o2 _ _ => ?_
  exact h3 _ F L σ H2 o2 _ fun v H3 o3 _ _ x3 => ⟨.ref p, .ref p', v, rfl, k p q p' q' _ _ (Ok.set (s := .dat d) (Ok.set (s := .loc (.ref p')) (Ok.set (s := .loc (.ref p)) o3 rfl) rfl) x3)⟩
/-- C(..) == C(..) -/
theorem ev_eqNew2 {R : Ms → List Sl → PyData → Ms → Prop} {b : Bool} {R1 R2 : List PyData → (Addr → List (Str × Sl)) → MO → Prop} {f1 f2 : Addr → List (Str × Sl)} {q1 q2 : MO} (hl : PySem.W.subIn K (.type "list") (.ref C) = some false) (ha1 : ∀ M, EvA K tr ρ M (ds1.map Sl.dat) M) (hR1 : R1 ds1 f1 q1) (ha2 : ∀ M, EvA K tr' ρ M (ds2.map Sl.dat) M) (hR2 : R2 ds2 f2 q2)
    (hR : ∀ p q p' q', R [(p, .ins C (f1 q)), (q, q1), (p', .ins C (f2 q')), (q', q2)] [.loc (.ref p), .loc (.ref p')] (.bool b) [(p, .ins C (f1 q)), (q, q1), (p', .ins C (f2 q')), (q', q2)]) :
    Ev K (tOp (rEqOwn K C (spMs K R) E) (tMake C (spI K C R1) [] E1 tr) (tMake C (spI K C R2) [] E2 tr')) ρ M (.dat (.bool b)) M := fun F L σ H o Q k =>
  make_ok (ha1 _) hR1 o fun p q H1 hFp hFq o1 _ a1 => make_ok (ha2 _) hR2 o1 fun p' q' H2 hFp' hFq' o2 _ a2 => by
    refine eq_run (M := M ++ [(p, .ins C (f1 q)), (q, q1)] ++ [(p', .ins C (f2 q')), (q', q2)]) hl o2 rfl (List.mem_append_left _ (List.mem_append_right _ List.mem_cons_self)) (s := .loc (.ref p')) rfl (.ins (List.mem_append_right _ List.mem_cons_self)) [(p, .ins C (f1 q)), (q, q1), (p', .ins C (f2 q')), (q', q2)] ?_ (hR p q p' q') fun H3 o3 a3 => ?_
    · rw [List.append_assoc]; exact List.sublist_append_right ..
    refine k _ H3 o3.forget.forget rfl (fun a y e => ?_) (.bl b)
    have e1 := a1 a y e
    obtain ⟨n, e0⟩ := hid_some e
    have n1 : a ∉ ad (M ++ [(p, .ins C (f1 q)), (q, q1)]) := fun z => by
      rw [show ad (M ++ [(p, .ins C (f1 q)), (q, q1)]) = ad M ++ [p, q] from List.map_append ..] at z
      rcases List.mem_append.mp z with z | z
      · exact n z
      · rcases List.mem_cons.mp z with z | z
        · rw [z, hFp] at e; cases e
        · rw [List.mem_singleton.mp z, hFq] at e; cases e
    have e1' := hid_of n1 e1
    have e2 := a2 a y e1'
    refine a3 a y (hid_of (fun z => ?_) e2)
    rw [show ad (M ++ [(p, .ins C (f1 q)), (q, q1)] ++ [(p', .ins C (f2 q')), (q', q2)]) = ad (M ++ [(p, .ins C (f1 q)), (q, q1)]) ++ [p', q'] from List.map_append ..] at z
    rcases List.mem_append.mp z with z | z
    · exact n1 z
    · rcases List.mem_cons.mp z with z | z
      · rw [z, hFp'] at e1'; cases e1'
      · rw [List.mem_singleton.mp z, hFq'] at e1'; cases e1'
/-- x not in [..], texts -/
theorem inV_strs (w : Str) : ∀ ws : List Str, inV (.str w) (ws.map V.str) = decide (w ∈ ws) := fun ws => by
  unfold inV
  induction ws with
  | nil => rfl
  | cons x ws ih =>
    simp only [List.map_cons, List.any_cons, List.mem_cons] at ih ⊢
    rw [ih, show eqV (.str x) (.str w) = decide (x = w) by simp [eqV, Bool.beq_eq_decide_eq]]
    by_cases e : w = x
    · subst e; simp
    · have e' : ¬ x = w := fun z => e z.symm
      simp [e, e']
theorem ev_notInS {w : Str} {ws : List Str} (ha : Ev K ta ρ M (.dat (.str w)) M1) (hb : Ev K tb ρ M1 (.dat (.list (ws.map PyData.str))) M2) : Ev K (tOp (rIn K true) ta tb) ρ M (.dat (.bool (!decide (w ∈ ws)))) M2 := ev_op ha hb fun F L σ H x y o hx hy Q q => by
  obtain ⟨a, ys, rfl, h1, h2⟩ := list_of hy
  have e := dp_strs h2
  subst e
  have ex := str_of hx
  subst ex
  refine ⟨a, _, rfl, .inl (SqL.vis h1), rfl, by simp [List.all_map, flatV], q _ H (Same.refl H) ?_⟩
  rw [inV_strs]
  exact .bl _
/-! ### isinstance(x, C), x an instance or a list -/
theorem ev_isiC {D : Addr} (I : IsC K C) (ha : Ev K ta ρ M (.loc (.ref p)) M1) (hp : (p, MO.ins C fs) ∈ M1) {b : Bool} (hk : PySem.W.kitOne K (.ref C) (.ref D) = some b) : Ev K (tCB (rIsi K) (tCons ta (tCons (tC (.ref D)) tNil))) ρ M (.dat (.bool b)) M1 := by
  refine ev_cb (ss := [.loc (.ref p), .loc (.ref D)]) (EvA.cons ha (EvA.cons (ev_c fun _ => rfl) EvA.nil)) fun F L σ H xs o hx Q q => ?_
  obtain ⟨x, c, rfl, h1, h2⟩ := two_of hx
  have ec : c = .ref D := h2
  have ex : x = .ref p := h1
  subst ec ex
  obtain ⟨dx, gs, h3, _⟩ := o.ob _ hp
  exact ⟨.ref p, .ref D, .ref C, .ref D, b, rfl, .own D, .base (.ins h3 I.cl I.ha I.hn I.ht I.hm), hk, q _ H (Same.refl H) (.bl _)⟩
theorem ev_isiLC {D : Addr} (ha : Ev K ta ρ M (.dat (.list ds)) M1) {b : Bool} (hk : PySem.W.kitOne K (.type "list") (.ref D) = some b) : Ev K (tCB (rIsi K) (tCons ta (tCons (tC (.ref D)) tNil))) ρ M (.dat (.bool b)) M1 := by
  refine ev_cb (ss := [.dat (.list ds), .loc (.ref D)]) (EvA.cons ha (EvA.cons (ev_c fun _ => rfl) EvA.nil)) fun F L σ H xs o hx Q q => ?_
  obtain ⟨x, c, rfl, h1, h2⟩ := two_of hx
  have ec : c = .ref D := h2
  subst ec
  have hd : Dp K H x (.list ds) := Dp.mono (hid_le _ _) h1
  exact ⟨x, .ref D, .type "list", .ref D, b, rfl, .own D, ty_of hd, hk, q _ H (Same.refl H) (.bl _)⟩
end
end Wm

namespace Wm
open PySem L2 PySem.Spec PyProof.Rows
def topS (i : Nat) : Stmt := PySem.Challenge.pw_warmcold_k13_whole_a_search_deed_by_deed.main.body.getD i (.Pass ⟨0, 0, 0, 0⟩)
local macro_rules | `(tactic| wtm_at "evx") => `(tactic| fail)
local macro_rules | `(tactic| wtm_at "side") => `(tactic| first | rfl | decide | assumption | omega | (focus (simp; done)) | (simp; omega))
local macro_rules | `(tactic| wtm_at "ed") => `(tactic| first
  | ((with_reducible apply ed_cons) <;> first | wtm_at "ed" | wtm_at "ev")
  | (with_reducible exact ed_nil))
local macro_rules | `(tactic| wtm_at "ea") => `(tactic| first
  | (with_reducible exact EvA.nil)
  | ((with_reducible apply EvA.cons); (wtm_at "ev"); (wtm_at "ea")))
local macro_rules | `(tactic| wtm_at "eo") => `(tactic| first
  | (with_reducible exact eo_no)
  | ((with_reducible apply eo_some); (wtm_at "ev")))
local macro_rules | `(tactic| wtm_at "et") => `(tactic| first
  | ((with_reducible apply et_test); (wtm_at "ev"))
  | ((with_reducible apply et_B); (wtm_at "ev"))
  | ((with_reducible apply et_not); (wtm_at "et"))
  | ((with_reducible apply et_or2); (wtm_at "et"); (wtm_at "et"))
  | ((with_reducible apply et_and2); (wtm_at "et"); (wtm_at "et")))
local macro_rules | `(tactic| wtm_at "ei") => `(tactic| first
  | ((with_reducible apply ei_list); (wtm_at "ev"))
  | ((with_reducible apply ei_tup); (wtm_at "ev"))
  | ((with_reducible apply ei_rng1); (wtm_at "ea"); (omega); (omega))
  | ((with_reducible apply ei_rng2); (wtm_at "ea"); (omega))
  | ((with_reducible apply ei_enum); (wtm_at "ea"))
  | ((with_reducible apply ei_zip); (wtm_at "ea")))
local macro_rules | `(tactic| wtm_at "eg") => `(tactic| (intro i hi; first | (with_reducible exact eg_name) | exact eg_two))
local macro_rules | `(tactic| wtm_at "en") => `(tactic| first
  | (wtm_at "evx")
  | ((with_reducible apply evn_lstD); (wtm_at "ed"); (first | decide | (focus (simp; done))))
  | ((with_reducible apply evn_listL); (wtm_at "ea"))
  | ((with_reducible apply evn_listT); (wtm_at "ea"))
  | ((with_reducible apply evn_slL); (wtm_at "ev"); (wtm_at "eo"); (wtm_at "eo")))
local macro_rules | `(tactic| wtm_at "ev") => `(tactic| first
  | ((with_reducible apply ev_varD); rfl)
  | ((with_reducible apply ev_varL); rfl)
  | (with_reducible exact ev_int)
  | (with_reducible exact ev_str)
  | (with_reducible exact ev_bl)
  | (with_reducible exact ev_non)
  | ((with_reducible apply ev_ite2); (wtm_at "et"); (wtm_at "ev"); (wtm_at "ev"))
  | ((with_reducible apply ev_andV2); (wtm_at "ev"); (wtm_at "ev"))
  | ((with_reducible apply ev_orV2); (wtm_at "ev"); (wtm_at "ev"))
  | ((with_reducible apply ev_add) <;> wtm_at "ev")
  | ((with_reducible apply ev_sub) <;> wtm_at "ev")
  | ((with_reducible apply ev_eqI) <;> wtm_at "ev")
  | ((with_reducible apply ev_neI) <;> wtm_at "ev")
  | ((with_reducible apply ev_eqS) <;> wtm_at "ev")
  | ((with_reducible apply ev_neS) <;> wtm_at "ev")
  | ((with_reducible apply ev_lt) <;> wtm_at "ev")
  | ((with_reducible apply ev_le) <;> wtm_at "ev")
  | ((with_reducible apply ev_gt) <;> wtm_at "ev")
  | ((with_reducible apply ev_ge) <;> wtm_at "ev")
  | ((with_reducible apply ev_neg) <;> wtm_at "ev")
  | (wtm_at "evx")
  | ((with_reducible apply ev_abs); (wtm_at "ea"))
  | ((with_reducible apply ev_max2); (wtm_at "ea"))
  | ((with_reducible apply ev_min2); (wtm_at "ea"))
  | ((with_reducible apply ev_lenL); (wtm_at "ea"))
  | ((with_reducible apply ev_lenT); (wtm_at "ea"))
  | ((with_reducible apply ev_lenScr); (wtm_at "ea"))
  | ((with_reducible apply ev_intB); (wtm_at "ea"))
  | ((with_reducible apply ev_isi); (wtm_at "ev"); (focus (simp; done)))
  | ((with_reducible apply ev_notV); (wtm_at "ev"))
  | ((with_reducible apply ev_isN); (wtm_at "ev"))
  | ((with_reducible apply ev_notN); (wtm_at "ev"))
  | ((with_reducible apply ev_tupD); (wtm_at "ed"); (first | decide | (focus (simp; done))))
  | ((with_reducible apply ev_mul); (wtm_at "ev"); (wtm_at "ev"); (wtm_at "side"))
  | ((with_reducible apply ev_mod); (wtm_at "ev"); (wtm_at "ev"); (wtm_at "side"))
  | ((with_reducible apply ev_div); (wtm_at "ev"); (wtm_at "ev"); (wtm_at "side"))
  | ((with_reducible apply ev_ixI); (wtm_at "ev"); (wtm_at "ev"); (wtm_at "side"); (wtm_at "side"))
  | ((with_reducible apply ev_ixS); (wtm_at "ev"); (wtm_at "ev"); (wtm_at "side"); (wtm_at "side"))
  | ((with_reducible apply EvN.ev); (wtm_at "en")))
local macro_rules | `(tactic| wtm_at "evd") => `(tactic| (apply ev_isD; (wtm_at "ev")))
local macro_rules | `(tactic| wtm_at "end") => `(tactic| (apply evn_is; (wtm_at "en")))
local macro_rules | `(tactic| wtm_at "etd") => `(tactic| (apply et_is; (wtm_at "et")))
section
variable {P : Program} {w : World} {K : PySem.W.Frag} {mg : Str → Option Value} {base : Heap}
/-! what the defs of paths give -/
def within : PyData → Int → Int → Bool
  | .int i, lo, hi => decide (lo ≤ i) && decide (i ≤ hi)
  | _, _, _ => false
def wSame : Str := "same"
def wWarm : Str := "warm"
def wCold : Str := "cold"
def wordOf (far near : Int) : Str := if far = near then wSame else if near < far then wWarm else wCold
def ansOf (t b n : Int) : Str := wordOf (t - b).natAbs (t - n).natAbs
def answers (t : Int) (xs : List Int) : List Str := (List.range (xs.length - 1)).map fun i => ansOf t (xs.getD i 0) (xs.getD (i + 1) 0)
abbrev dI (xs : List Int) : PyData := .list (xs.map PyData.int)
abbrev dS (xs : List Str) : PyData := .list (xs.map PyData.str)
abbrev dTI (xs : List Int) : PyData := .tuple (xs.map PyData.int)
def R_is_within (ds : List PyData) (r : PyData) : Prop := ∃ d lo hi, ds = [d, .int lo, .int hi] ∧ r = .bool (within d lo hi)
theorem ev_is_within {K : PySem.W.Frag} {ta tb tc : TE} {ρ : List Sl} {M M1 M2 M3 : Ms} {E : XK} {d : PyData} {lo hi : Int} (ha : Ev K ta ρ M (.dat d) M1) (hb : Ev K tb ρ M1 (.dat (.int lo)) M2) (hc : Ev K tc ρ M2 (.dat (.int hi)) M3) :
    Ev K (tCall (spP K R_is_within) [] E (tCons ta (tCons tb (tCons tc tNil)))) ρ M (.dat (.bool (within d lo hi))) M3 := ev_callD (ed_cons ha (ed_cons hb (ed_cons hc ed_nil))) ⟨d, lo, hi, rfl, rfl⟩
abbrev s_is_within : Stmt := topS 14
theorem sc_is_within : FnScope ["thing", "low", "high"] ["thing", "low", "high"] (defScope s_is_within) := ⟨rfl, rfl, rfl, by decide +kernel, rfl, by decide +kernel, by decide +kernel⟩
theorem ok_is_within (T : Raw K mg "is_within" "is_within" s_is_within) (B : Bl mg)    : Has P w K mg base 1 "is_within" ["thing", "low", "high"] (spP K R_is_within) := by
  obtain ⟨f, fd, Fn, hg⟩ := T
  refine ⟨f, fd, okP Fn sc_is_within ?len (fun cdv A outer s H E hr => ⟨_, (pss_one (ps_ret (pe_and (pe_callB (w_isi (K' := K) rfl) (by rfl) B.isinstance_ (by decide +kernel) (pa_cons (pv 0) (pa_cons (pe_bltn (by rfl) B.int_ (by decide +kernel) (show RelV (.ty "int") _ from rfl)) pa_nil))) (pe_and (pe_not (pe_callB (w_isi (K' := K) rfl) (by rfl) B.isinstance_ (by decide +kernel) (pa_cons (pv 0) (pa_cons (pe_bltn (by rfl) B.bool_ (by decide +kernel) (show RelV (.ty "bool") _ from rfl)) pa_nil)))) (pe_one (pe_chain op_le op_le (pv 1) (pv 0) (pv 2))))))), ?_⟩), hg, Fn.kp, Fn.binds fun _ _ _ _ _ _ us hl => match us, hl with | [_, _, _], _ => rfl⟩
  case len =>
    rintro ds r ⟨d, lo, hi, rfl, rfl⟩; rfl
  rintro ds r ⟨d, lo, hi, rfl, rfl⟩ F L σ H D hrt hnx o
  try dsimp only [cxOf]
  refine s_retP0 ?_ hrt o
  cases d with
  | int i => exact ev_isD (ev_andV (by wtm_at "ev") fun _ => ev_andV (by wtm_at "ev") fun _ => ev_chain (p := fun i j => decide (i ≤ j)) (p' := fun i j => decide (i ≤ j)) rfl rfl (by wtm_at "ev") (by wtm_at "ev") (by wtm_at "ev")) (by simp [isD, tyD, within])
  | bool b => exact ev_isD (ev_andV (by wtm_at "ev") fun _ => ev_andV (b := false) (by wtm_at "ev") fun e => by simp [isD, tyD] at e) (by simp [isD, tyD, within])
  | none => exact ev_isD (ev_andV (b := false) (by wtm_at "ev") fun e => by simp [isD, tyD] at e) (by simp [isD, tyD, within])
  | str x => exact ev_isD (ev_andV (b := false) (by wtm_at "ev") fun e => by simp [isD, tyD] at e) (by simp [isD, tyD, within])
  | list x => exact ev_isD (ev_andV (b := false) (by wtm_at "ev") fun e => by simp [isD, tyD] at e) (by simp [isD, tyD, within])
  | tuple x => exact ev_isD (ev_andV (b := false) (by wtm_at "ev") fun e => by simp [isD, tyD] at e) (by simp [isD, tyD, within])
  | dict x => exact ev_isD (ev_andV (b := false) (by wtm_at "ev") fun e => by simp [isD, tyD] at e) (by simp [isD, tyD, within])
local macro_rules | `(tactic| wtm_at "evx") => `(tactic| ((with_reducible apply ev_is_within); (wtm_at "ev"); (wtm_at "ev"); (wtm_at "ev")))
def R_need_length (ds : List PyData) (r : PyData) : Prop := ∃ d, ds = [d] ∧ within d 1 60 = true ∧ r = .none
theorem ev_need_length {K : PySem.W.Frag} {ta : TE} {ρ : List Sl} {M M1 : Ms} {E : XK} {d : PyData} (ha : Ev K ta ρ M (.dat d) M1) (h : within d 1 60 = true) :
    Ev K (tCall (spP K R_need_length) [] E (tCons ta tNil)) ρ M (.dat .none) M1 := ev_callD (ed_cons ha ed_nil) ⟨d, rfl, h, rfl⟩
abbrev s_need_length : Stmt := topS 15
theorem sc_need_length : FnScope ["length"] ["length"] (defScope s_need_length) := ⟨rfl, rfl, rfl, by decide +kernel, rfl, by decide +kernel, by decide +kernel⟩
theorem ok_need_length (T : Raw K mg "need_length" "need_length" s_need_length) (B : Bl mg)   (h_is_within : Has P w K mg base 1 "is_within" ["thing", "low", "high"] (spP K R_is_within)) : Has P w K mg base 2 "need_length" ["length"] (spP K R_need_length) := by
  obtain ⟨f, fd, Fn, hg⟩ := T
  obtain ⟨_, _, G_is_within, g_is_within, k_is_within, b_is_within⟩ := h_is_within
  refine ⟨f, fd, okP Fn sc_need_length ?len (fun cdv A outer s H E hr => ⟨_, (pss_one (ps_if (pt_not (pt_val (pe_call G_is_within (hr.mono (by first | decide | omega)) (by rfl) g_is_within k_is_within b_is_within .nil pass0 (pa_cons (pv 0) (pa_cons pe_int (pa_cons pe_int pa_nil)))))) (pss_one ps_never) pss_nil)), ?_⟩), hg, Fn.kp, Fn.binds fun _ _ _ _ _ _ us hl => match us, hl with | [_], _ => rfl⟩
  case len =>
    rintro ds r ⟨d, rfl, hw, rfl⟩; rfl
  rintro ds r ⟨d, rfl, hw, rfl⟩ F L σ H D hrt hnx o
  try dsimp only [cxOf]
  refine s_ifF0 (et_is (by wtm_at "et") (by rw [hw]; rfl)) (fun H o => ?_) o
  exact hnx _ _ o.fr rfl
def R_need_place (ds : List PyData) (r : PyData) : Prop := ∃ n d, ds = [.int n, d] ∧ within d 1 n = true ∧ r = .none
theorem ev_need_place {K : PySem.W.Frag} {ta tb : TE} {ρ : List Sl} {M M1 M2 : Ms} {E : XK} {n : Int} {d : PyData} (ha : Ev K ta ρ M (.dat (.int n)) M1) (hb : Ev K tb ρ M1 (.dat d) M2) (h : within d 1 n = true) :
    Ev K (tCall (spP K R_need_place) [] E (tCons ta (tCons tb tNil))) ρ M (.dat .none) M2 := ev_callD (ed_cons ha (ed_cons hb ed_nil)) ⟨n, d, rfl, h, rfl⟩
abbrev s_need_place : Stmt := topS 16
theorem sc_need_place : FnScope ["length", "place"] ["length", "place"] (defScope s_need_place) := ⟨rfl, rfl, rfl, by decide +kernel, rfl, by decide +kernel, by decide +kernel⟩
theorem ok_need_place (T : Raw K mg "need_place" "need_place" s_need_place) (B : Bl mg)   (h_is_within : Has P w K mg base 1 "is_within" ["thing", "low", "high"] (spP K R_is_within)) : Has P w K mg base 2 "need_place" ["length", "place"] (spP K R_need_place) := by
  obtain ⟨f, fd, Fn, hg⟩ := T
  obtain ⟨_, _, G_is_within, g_is_within, k_is_within, b_is_within⟩ := h_is_within
  refine ⟨f, fd, okP Fn sc_need_place ?len (fun cdv A outer s H E hr => ⟨_, (pss_one (ps_if (pt_not (pt_val (pe_call G_is_within (hr.mono (by first | decide | omega)) (by rfl) g_is_within k_is_within b_is_within .nil pass0 (pa_cons (pv 1) (pa_cons pe_int (pa_cons (pv 0) pa_nil)))))) (pss_one ps_never) pss_nil)), ?_⟩), hg, Fn.kp, Fn.binds fun _ _ _ _ _ _ us hl => match us, hl with | [_, _], _ => rfl⟩
  case len =>
    rintro ds r ⟨n, d, rfl, hw, rfl⟩; rfl
  rintro ds r ⟨n, d, rfl, hw, rfl⟩ F L σ H D hrt hnx o
  try dsimp only [cxOf]
  refine s_ifF0 (et_is (by wtm_at "et") (by rw [hw]; rfl)) (fun H o => ?_) o
  exact hnx _ _ o.fr rfl
def stOk (n : Int) (xs : List Int) : Prop := xs.length ≤ 40 ∧ ∀ x ∈ xs, 1 ≤ x ∧ x ≤ n
def R_need_stands (ds : List PyData) (r : PyData) : Prop := ∃ n xs, ds = [.int n, dI xs] ∧ stOk n xs ∧ r = .none
theorem ev_need_stands {K : PySem.W.Frag} {ta tb : TE} {ρ : List Sl} {M M1 M2 : Ms} {E : XK} {n : Int} {xs : List Int} (ha : Ev K ta ρ M (.dat (.int n)) M1) (hb : Ev K tb ρ M1 (.dat (dI xs)) M2) (h : stOk n xs) :
    Ev K (tCall (spP K R_need_stands) [] E (tCons ta (tCons tb tNil))) ρ M (.dat .none) M2 := ev_callD (ed_cons ha (ed_cons hb ed_nil)) ⟨n, xs, rfl, h, rfl⟩
def R_word_for (ds : List PyData) (r : PyData) : Prop := ∃ f n : Int, ds = [.int f, .int n] ∧ r = .str (wordOf f n)
theorem ev_word_for {K : PySem.W.Frag} {ta tb : TE} {ρ : List Sl} {M M1 M2 : Ms} {E : XK} {f n : Int} (ha : Ev K ta ρ M (.dat (.int f)) M1) (hb : Ev K tb ρ M1 (.dat (.int n)) M2) :
    Ev K (tCall (spP K R_word_for) [] E (tCons ta (tCons tb tNil))) ρ M (.dat (.str (wordOf f n))) M2 := ev_callD (ed_cons ha (ed_cons hb ed_nil)) ⟨f, n, rfl, rfl⟩
abbrev s_word_for : Stmt := topS 18
theorem sc_word_for : FnScope ["far", "near"] ["far", "near"] (defScope s_word_for) := ⟨rfl, rfl, rfl, by decide +kernel, rfl, by decide +kernel, by decide +kernel⟩
theorem ok_word_for (T : Raw K mg "word_for" "word_for" s_word_for) (B : Bl mg)    : Has P w K mg base 1 "word_for" ["far", "near"] (spP K R_word_for) := by
  obtain ⟨f, fd, Fn, hg⟩ := T
  refine ⟨f, fd, okP Fn sc_word_for ?len (fun cdv A outer s H E hr => ⟨_, (pss_cons (ps_if (pt_cmpR op_eq (pv 0) (pv 1) (nomark _)) (pss_one (ps_ret pe_str)) pss_nil)
      (pss_one (ps_ret (pe_ifExp (pt_cmpR op_lt (pv 1) (pv 0) (nomark _)) pe_str pe_str)))), ?_⟩), hg, Fn.kp, Fn.binds fun _ _ _ _ _ _ us hl => match us, hl with | [_, _], _ => rfl⟩
  case len =>
    rintro ds r ⟨f, n, rfl, rfl⟩; rfl
  rintro ds r ⟨f, n, rfl, rfl⟩ F L σ H D hrt hnx o
  try dsimp only [cxOf]
  refine q_ifR0 (b := decide (f = n)) (by wtm_at "et") (fun e H o => s_retP0 ?_ hrt o) (fun e H o => s_retP0 ?_ hrt o) o
  · wtm_at "evd"
    unfold wordOf; rw [if_pos (of_decide_eq_true e)]; rfl
  · wtm_at "evd"
    unfold wordOf; rw [if_neg (of_decide_eq_false e)]
    by_cases h : n < f
    · rw [if_pos h, decide_eq_true h]; rfl
    · rw [if_neg h, decide_eq_false h]; rfl
local macro_rules | `(tactic| wtm_at "evx") => `(tactic| ((with_reducible apply ev_word_for) <;> wtm_at "ev"))
def R_answer (ds : List PyData) (r : PyData) : Prop := ∃ t b n : Int, ds = [.int t, .int b, .int n] ∧ r = .str (ansOf t b n)
theorem ev_answer {K : PySem.W.Frag} {ta tb tc : TE} {ρ : List Sl} {M M1 M2 M3 : Ms} {E : XK} {t b n : Int} (ha : Ev K ta ρ M (.dat (.int t)) M1) (hb : Ev K tb ρ M1 (.dat (.int b)) M2) (hc : Ev K tc ρ M2 (.dat (.int n)) M3) :
    Ev K (tCall (spP K R_answer) [] E (tCons ta (tCons tb (tCons tc tNil)))) ρ M (.dat (.str (ansOf t b n))) M3 := ev_callD (ed_cons ha (ed_cons hb (ed_cons hc ed_nil))) ⟨t, b, n, rfl, rfl⟩
abbrev s_answer : Stmt := topS 19
theorem sc_answer : FnScope ["thing", "before", "now"] ["thing", "before", "now"] (defScope s_answer) := ⟨rfl, rfl, rfl, by decide +kernel, rfl, by decide +kernel, by decide +kernel⟩
theorem ok_answer (T : Raw K mg "answer" "answer" s_answer) (B : Bl mg)   (h_word_for : Has P w K mg base 1 "word_for" ["far", "near"] (spP K R_word_for)) : Has P w K mg base 2 "answer" ["thing", "before", "now"] (spP K R_answer) := by
  obtain ⟨f, fd, Fn, hg⟩ := T
  obtain ⟨_, _, G_word_for, g_word_for, k_word_for, b_word_for⟩ := h_word_for
  refine ⟨f, fd, okP Fn sc_answer ?len (fun cdv A outer s H E hr => ⟨_, (pss_one (ps_ret (pe_call G_word_for (hr.mono (by first | decide | omega)) (by rfl) g_word_for k_word_for b_word_for .nil pass0 (pa_cons (pe_callB c_abs (by rfl) B.abs_ (by decide +kernel) (pa_cons (pe_op op_sub (pv 0) (pv 1)) pa_nil)) (pa_cons (pe_callB c_abs (by rfl) B.abs_ (by decide +kernel) (pa_cons (pe_op op_sub (pv 0) (pv 2)) pa_nil)) pa_nil))))), ?_⟩), hg, Fn.kp, Fn.binds fun _ _ _ _ _ _ us hl => match us, hl with | [_, _, _], _ => rfl⟩
  case len =>
    rintro ds r ⟨t, b, n, rfl, rfl⟩; rfl
  rintro ds r ⟨t, b, n, rfl, rfl⟩ F L σ H D hrt hnx o
  try dsimp only [cxOf]
  exact s_retP0 (by wtm_at "evd"; rfl) hrt o
local macro_rules | `(tactic| wtm_at "evx") => `(tactic| ((with_reducible apply ev_answer) <;> wtm_at "ev"))
def R_all_answers (ds : List PyData) (rs : List PyData) : Prop := ∃ (t : Int) (xs : List Int), ds = [.int t, dI xs] ∧ xs.length ≤ 1000 ∧ rs = (answers t xs).map PyData.str
theorem ev_all_answers {K : PySem.W.Frag} {ta tb : TE} {ρ : List Sl} {M M1 M2 : Ms} {E : XK} {t : Int} {xs : List Int} (ha : Ev K ta ρ M (.dat (.int t)) M1) (hb : Ev K tb ρ M1 (.dat (dI xs)) M2) (hl : xs.length ≤ 1000) :
    EvN K (tCall (spN K R_all_answers) [] E (tCons ta (tCons tb tNil))) ρ M ((answers t xs).map PyData.str) M2 := evn_callD (ed_cons ha (ed_cons hb ed_nil)) ⟨t, xs, rfl, hl, rfl⟩
theorem cutD_tail (xs : List PyData) : cutD xs (some 1) none = xs.drop 1 := by
  unfold cutD
  rw [show HT.sIx xs.length 0 (some 1) = min 1 xs.length from HT.sIx_nat xs.length 0 1, HT.sIx_none]
  cases xs with
  | nil => rfl
  | cons x r =>
    rw [show min 1 (x :: r).length = 1 by rw [List.length_cons]; omega]
    show (List.take ((x :: r).length - 1) r) = r
    rw [List.length_cons, Nat.add_sub_cancel]
    exact List.take_length
abbrev s_all_answers : Stmt := topS 20
theorem sc_all_answers : FnScope ["thing", "stands", "before", "now"] ["thing", "stands"] (defScope s_all_answers) := ⟨rfl, rfl, rfl, by decide +kernel, rfl, by decide +kernel, by decide +kernel⟩
theorem ok_all_answers (T : Raw K mg "all_answers" "all_answers" s_all_answers) (B : Bl mg)   (h_answer : Has P w K mg base 2 "answer" ["thing", "before", "now"] (spP K R_answer)) : Has P w K mg base 3 "all_answers" ["thing", "stands"] (spN K R_all_answers) := by
  obtain ⟨f, fd, Fn, hg⟩ := T
  obtain ⟨_, _, G_answer, g_answer, k_answer, b_answer⟩ := h_answer
  refine ⟨f, fd, okN Fn sc_all_answers ?len (fun cdv A outer s H E hr => ⟨_, (pss_one (ps_ret (pe_lc (own := [("before", 2), ("now", 3)]) (g := gTup K 2 (gCons (gName 2) (gCons (gName 3) gNil))) rfl sc_all_answers.nd (wi_zip (K' := K) rfl (by rfl) B.zip_ (pa_cons (pv 1) (pa_cons (pe_slice (w_slL (K' := K) rfl) (pv 1) (po_some pe_int) po_none) pa_nil))) (blkOk_by (own := [("before", 2), ("now", 3)]) (N := ["thing", "stands", "before", "now"]) (sc := defScope s_all_answers) (by decide +kernel)) (fun _ _ _ _ _ => (pg_tup rfl (pgs_cons (pg_name (i := 2) sc_all_answers.nd rfl (by first | exact .inl rfl | exact .inr rfl)) (pgs_cons (pg_name (i := 3) sc_all_answers.nd rfl (by first | exact .inl rfl | exact .inr rfl)) pgs_nil)))) (fun _ _ _ _ _ => pts_nil) (fun _ _ _ _ _ => (pe_call G_answer (hr.mono (by first | decide | omega)) (by rfl) g_answer k_answer b_answer .nil pass0 (pa_cons (pv 0) (pa_cons (pv 2) (pa_cons (pv 3) pa_nil)))))))), ?_⟩), hg, Fn.kp, Fn.binds fun _ _ _ _ _ _ us hl => match us, hl with | [_, _], _ => rfl⟩
  case len =>
    rintro ds r ⟨t, xs, rfl, hl, rfl⟩; rfl
  rintro ds rs ⟨t, xs, rfl, hl, rfl⟩ F L σ H D hrt o
  try dsimp only [cxOf]
  refine s_retNN0 (evn_is (evn_lcP (fun i => .str (ansOf t (xs.getD i 0) (xs.getD (i + 1) 0))) (by wtm_at "ei") (by wtm_at "eg") (by simp) ?el ?len) ?eq) hrt o
  case el =>
    intro i hi
    rw [cutD_tail] at hi
    simp only [List.length_map, List.length_drop] at hi
    have e1 : (xs.map PyData.int).getD i .none = .int (xs.getD i 0) := getD_map_int xs i (by omega)
    have e2 : (cutD (xs.map PyData.int) (some 1) none).getD i .none = .int (xs.getD (i + 1) 0) := by
      rw [cutD_tail, List.getD_eq_getElem?_getD, List.getElem?_drop, ← List.getD_eq_getElem?_getD, Nat.add_comm, getD_map_int xs (i + 1) (by omega)]
    rw [e1, e2]
    wtm_at "ev"
  case len =>
    rw [cutD_tail]; simp only [List.length_map, List.length_drop]; omega
  case eq =>
    rw [cutD_tail]
    simp only [List.length_map, List.length_drop, answers, List.map_map]
    rw [show min xs.length (xs.length - 1) = xs.length - 1 by omega]
    rfl
local macro_rules | `(tactic| wtm_at "evx") => `(tactic| ((with_reducible apply ev_all_answers); (wtm_at "ev"); (wtm_at "ev"); (wtm_at "side")))
def R_answers_to (ds : List PyData) (rs : List PyData) : Prop := ∃ (n t : Int) (xs : List Int), ds = [.int n, .int t, dI xs] ∧ (1 ≤ n ∧ n ≤ 60) ∧ (1 ≤ t ∧ t ≤ n) ∧ stOk n xs ∧ rs = (answers t xs).map PyData.str
theorem ev_answers_to {K : PySem.W.Frag} {ta tb tc : TE} {ρ : List Sl} {M M1 M2 M3 : Ms} {E : XK} {n t : Int} {xs : List Int} (ha : Ev K ta ρ M (.dat (.int n)) M1) (hb : Ev K tb ρ M1 (.dat (.int t)) M2) (hc : Ev K tc ρ M2 (.dat (dI xs)) M3) (h1 : 1 ≤ n ∧ n ≤ 60) (h2 : 1 ≤ t ∧ t ≤ n) (h3 : stOk n xs) :
    EvN K (tCall (spN K R_answers_to) [] E (tCons ta (tCons tb (tCons tc tNil)))) ρ M ((answers t xs).map PyData.str) M3 := evn_callD (ed_cons ha (ed_cons hb (ed_cons hc ed_nil))) ⟨n, t, xs, rfl, h1, h2, h3, rfl⟩
theorem within_int {i lo hi : Int} (h : lo ≤ i ∧ i ≤ hi) : within (.int i) lo hi = true := by simp [within, h.1, h.2]
/-! words, answers, places -/
def wordsL : List Str := [wCold, wSame, wWarm]
def isWord : PyData → Bool
  | .str w => decide (w ∈ wordsL)
  | _ => false
/-- the module's own tuple of words -/
def WordsAt (K : PySem.W.Frag) (a : Addr) : Prop := ∀ H : Hp, SqT K H a (wordsL.map V.str)
def wordsObj (o : Obj) : Bool := match o with
  | ⟨.type "tuple", _, .seq its _, _⟩ => match its.toList with
    | [.str a _, .str b _, .str c _] => decide (a = wCold) && decide (b = wSame) && decide (c = wWarm)
    | _ => false
  | _ => false
theorem wordsAt_of {K : PySem.W.Frag} {a : Addr} {o : Obj} (h : K.lookup a = some o) (q : wordsObj o = true) : WordsAt K a := fun H => by
  unfold wordsObj at q
  split at q
  · rename_i oc its n sl
    split at q
    · rename_i x tx y ty z tz e
      simp only [Bool.and_eq_true, decide_eq_true_eq] at q
      obtain ⟨⟨rfl, rfl⟩, rfl⟩ := q
      refine .inr ⟨_, its, n, h, rfl, rfl, ?_, ?_⟩
      · have : its.size = 3 := by rw [← Array.length_toList, e]; rfl
        rw [this]; exact line_of (by decide)
      · rw [e]; exact .cons ⟨_, rfl⟩ (.cons ⟨_, rfl⟩ (.cons ⟨_, rfl⟩ .nil))
    · cases q
  · cases q
theorem inV_words (w : Str) : inV (.str w) (wordsL.map V.str) = decide (w ∈ wordsL) := by
  unfold inV wordsL
  simp only [List.map_cons, List.map_nil, List.any_cons, List.any_nil, Bool.or_false, eqV]
  by_cases h1 : wCold = w <;> by_cases h2 : wSame = w <;> by_cases h3 : wWarm = w <;> simp [h1, h2, h3, eq_comm (a := w)] <;> simp_all [eq_comm]
theorem ev_inW {K : PySem.W.Frag} {ta : TE} {ρ : List Sl} {M M1 : Ms} {w : Str} {a : Addr} (qw : WordsAt K a) (ha : Ev K ta ρ M (.dat (.str w)) M1) : Ev K (tOp (rIn K false) ta (tC (.ref a))) ρ M (.dat (.bool (decide (w ∈ wordsL)))) M1 := ev_op ha ev_ref fun F L σ H x y o hx hy Q q => by
  have ey : y = .ref a := hy
  subst ey
  rw [str_of hx]
  refine ⟨a, _, rfl, .inr (qw H), rfl, by simp [List.all_map, flatV, wordsL], q _ H (Same.refl H) ?_⟩
  rw [if_neg Bool.false_ne_true, inV_words]
  exact .bl _
def wsOk (xs : List Int) (ws : List Str) : Prop := ws.length = xs.length - 1 ∧ ∀ w ∈ ws, w ∈ wordsL
theorem wordsL_ok : ∀ w ∈ wordsL, PyData.strOk w = true := by decide +kernel
theorem wordOf_memL (f n : Int) : wordOf f n ∈ wordsL := by
  unfold wordOf wordsL
  split
  · simp
  · split <;> simp
theorem answers_mem (t : Int) (xs : List Int) : ∀ w ∈ answers t xs, w ∈ wordsL := fun w hw => by
  obtain ⟨i, _, rfl⟩ := List.mem_map.mp hw
  exact wordOf_memL _ _
theorem answers_ok (t : Int) (xs : List Int) : ∀ w ∈ answers t xs, PyData.strOk w = true := fun w hw => wordsL_ok _ (answers_mem t xs w hw)
theorem answers_len (t : Int) (xs : List Int) : (answers t xs).length = xs.length - 1 := by simp [answers]
theorem answers_ws (t : Int) (xs : List Int) : wsOk xs (answers t xs) := ⟨answers_len t xs, answers_mem t xs⟩
def places (n : Int) (xs : List Int) (ws : List Str) : List Int := ((List.range n.toNat).filter fun (k : Nat) => decide (answers (1 + (k : Int)) xs = ws)).map fun (k : Nat) => 1 + (k : Int)
def R_is_answer (ds : List PyData) (r : PyData) : Prop := ∃ d, ds = [d] ∧ r = .bool (isWord d)
theorem ev_is_answer {K : PySem.W.Frag} {ta : TE} {ρ : List Sl} {M M1 : Ms} {E : XK} {d : PyData} (ha : Ev K ta ρ M (.dat d) M1) : Ev K (tCall (spP K R_is_answer) [] E (tCons ta tNil)) ρ M (.dat (.bool (isWord d))) M1 := ev_callD (ed_cons ha ed_nil) ⟨d, rfl, rfl⟩
abbrev s_is_answer : Stmt := topS 17
theorem sc_is_answer : FnScope ["thing"] ["thing"] (defScope s_is_answer) := ⟨rfl, rfl, rfl, by decide +kernel, rfl, by decide +kernel, by decide +kernel⟩
theorem ok_is_answer (T : Raw K mg "is_answer" "is_answer" s_is_answer) (B : Bl mg) {a_WORDS : Addr} (g_WORDS : mg "WORDS" = some (.ref a_WORDS)) (q_WORDS : WordsAt K a_WORDS)   : Has P w K mg base 1 "is_answer" ["thing"] (spP K R_is_answer) := by
  obtain ⟨f, fd, Fn, hg⟩ := T
  refine ⟨f, fd, okP Fn sc_is_answer ?len (fun cdv A outer s H E hr => ⟨_, (pss_one (ps_ret (pe_and (pe_callB (w_isi (K' := K) rfl) (by rfl) B.isinstance_ (by decide +kernel) (pa_cons (pv 0) (pa_cons (pe_bltn (by rfl) B.str_ (by decide +kernel) (show RelV (.ty "str") _ from rfl)) pa_nil))) (pe_one (pe_cmpR (w_in (K' := K) rfl) (pv 0) (pe_glob (by rfl) g_WORDS (show RelV (.ref a_WORDS) _ from rfl)) (by rfl)))))), ?_⟩), hg, Fn.kp, Fn.binds fun _ _ _ _ _ _ us hl => match us, hl with | [_], _ => rfl⟩
  case len =>
    rintro ds r ⟨d, rfl, rfl⟩; rfl
  rintro ds r ⟨d, rfl, rfl⟩ F L σ H D hrt hnx o
  try dsimp only [cxOf]
  refine s_retP0 ?_ hrt o
  cases d with
  | str w =>
    apply ev_isD
    · exact ev_andV2 (by wtm_at "ev") (ev_inW q_WORDS (by wtm_at "ev"))
    · simp [isD, tyD, isWord]
  | bool b => exact ev_isD (ev_andV (b := false) (by wtm_at "ev") fun e => by simp [isD, tyD] at e) (by simp [isD, tyD, isWord])
  | none => exact ev_isD (ev_andV (b := false) (by wtm_at "ev") fun e => by simp [isD, tyD] at e) (by simp [isD, tyD, isWord])
  | int x => exact ev_isD (ev_andV (b := false) (by wtm_at "ev") fun e => by simp [isD, tyD] at e) (by simp [isD, tyD, isWord])
  | list x => exact ev_isD (ev_andV (b := false) (by wtm_at "ev") fun e => by simp [isD, tyD] at e) (by simp [isD, tyD, isWord])
  | tuple x => exact ev_isD (ev_andV (b := false) (by wtm_at "ev") fun e => by simp [isD, tyD] at e) (by simp [isD, tyD, isWord])
  | dict x => exact ev_isD (ev_andV (b := false) (by wtm_at "ev") fun e => by simp [isD, tyD] at e) (by simp [isD, tyD, isWord])
local macro_rules | `(tactic| wtm_at "evx") => `(tactic| ((with_reducible apply ev_is_answer); (wtm_at "ev")))
def R_need_answers (ds : List PyData) (r : PyData) : Prop := ∃ xs ws, ds = [dI xs, dS ws] ∧ xs.length ≤ 1000 ∧ wsOk xs ws ∧ r = .none
theorem ev_need_answers {K : PySem.W.Frag} {ta tb : TE} {ρ : List Sl} {M M1 M2 : Ms} {E : XK} {xs : List Int} {ws : List Str} (ha : Ev K ta ρ M (.dat (dI xs)) M1) (hb : Ev K tb ρ M1 (.dat (dS ws)) M2) (hl : xs.length ≤ 1000) (h : wsOk xs ws) :
    Ev K (tCall (spP K R_need_answers) [] E (tCons ta (tCons tb tNil))) ρ M (.dat .none) M2 := ev_callD (ed_cons ha (ed_cons hb ed_nil)) ⟨xs, ws, rfl, hl, h, rfl⟩
def R_places_for (ds : List PyData) (r : PyData) : Prop := ∃ n xs ws, ds = [.int n, dI xs, dS ws] ∧ (0 ≤ n ∧ n ≤ 1000) ∧ xs.length ≤ 1000 ∧ (∀ w ∈ ws, PyData.strOk w = true) ∧ r = dTI (places n xs ws)
theorem ev_places_for {K : PySem.W.Frag} {ta tb tc : TE} {ρ : List Sl} {M M1 M2 M3 : Ms} {E : XK} {n : Int} {xs : List Int} {ws : List Str} (ha : Ev K ta ρ M (.dat (.int n)) M1) (hb : Ev K tb ρ M1 (.dat (dI xs)) M2) (hc : Ev K tc ρ M2 (.dat (dS ws)) M3) (hn : 0 ≤ n ∧ n ≤ 1000) (hl : xs.length ≤ 1000) (hw : ∀ w ∈ ws, PyData.strOk w = true) :
    Ev K (tCall (spP K R_places_for) [] E (tCons ta (tCons tb (tCons tc tNil)))) ρ M (.dat (dTI (places n xs ws))) M3 := ev_callD (ed_cons ha (ed_cons hb (ed_cons hc ed_nil))) ⟨n, xs, ws, rfl, hn, hl, hw, rfl⟩
abbrev s_places_for : Stmt := topS 21
theorem sc_places_for : FnScope ["length", "stands", "answers", "thing"] ["length", "stands", "answers"] (defScope s_places_for) := ⟨rfl, rfl, rfl, by decide +kernel, rfl, by decide +kernel, by decide +kernel⟩
theorem ok_places_for (T : Raw K mg "places_for" "places_for" s_places_for) (B : Bl mg)   (h_all_answers : Has P w K mg base 3 "all_answers" ["thing", "stands"] (spN K R_all_answers)) : Has P w K mg base 4 "places_for" ["length", "stands", "answers"] (spP K R_places_for) := by
  obtain ⟨f, fd, Fn, hg⟩ := T
  obtain ⟨_, _, G_all_answers, g_all_answers, k_all_answers, b_all_answers⟩ := h_all_answers
  refine ⟨f, fd, okP Fn sc_places_for ?len (fun cdv A outer s H E hr => ⟨_, (pss_one (ps_ret (we_tupleOf (K' := K) rfl (by rfl) B.tuple_ (pe_lc (own := [("thing", 3)]) (g := gName 3) rfl sc_places_for.nd (pi_range2 (by rfl) B.range_ (pa_cons pe_int (pa_cons (pe_op op_add (pv 0) pe_int) pa_nil))) (blkOk_by (own := [("thing", 3)]) (N := ["length", "stands", "answers", "thing"]) (sc := defScope s_places_for) (by decide +kernel)) (fun _ _ _ _ _ => (pg_name (i := 3) sc_places_for.nd rfl (by first | exact .inl rfl | exact .inr rfl))) (fun _ _ _ _ _ => (pts_one (pt_cmpR (w_eqD (K' := K) rfl hr.units) (pe_call G_all_answers (hr.mono (by first | decide | omega)) (by rfl) g_all_answers k_all_answers b_all_answers .nil pass0 (pa_cons (pv 3) (pa_cons (pv 1) pa_nil))) (pv 2) (nomark _)))) (fun _ _ _ _ _ => (pv 3)))))), ?_⟩), hg, Fn.kp, Fn.binds fun _ _ _ _ _ _ us hl => match us, hl with | [_, _, _], _ => rfl⟩
  case len =>
    rintro ds r ⟨n, xs, ws, rfl, hn, hl, hw, rfl⟩; rfl
  rintro ds r ⟨n, xs, ws, rfl, hn, hl, hw, rfl⟩ F L σ H D hrt hnx o
  try dsimp only [cxOf]
  refine s_retP0 (ev_tupleL (EvN.ev (evn_is (evn_lcF (n := n.toNat) (item := fun k => .int (1 + (k : Nat))) (fun k => decide (answers (1 + (k : Nat)) xs = ws)) (fun k => .int (1 + (k : Nat))) ?ei (by wtm_at "eg") (by simp) (fun k hk => ?et) (fun k hk => ?el) (by omega)) ?eq))) hrt o
  case ei =>
    have h := ei_rng2 (K := K) (ρ := [.dat (.int n), .dat (dI xs), .dat (dS ws), .un]) (M := []) (M1 := []) (i := 1) (j := n + 1) (tr := tCons (tC (.int 1)) (tCons (tOp (rI0 fun i j => .int (i + j)) (tVar 0) (tC (.int 1))) tNil)) (by wtm_at "ea") (by omega)
    rw [show (n + 1 - 1).toNat = n.toNat by omega] at h
    exact h
  case et =>
    refine et_is (et_test (ev_eqD (EvN.ev (ev_all_answers (by wtm_at "ev") (by wtm_at "ev") hl)) (by wtm_at "ev") ((sh_dS (answers_ok _ _)).shaped (by decide)) ((sh_dS hw).shaped (by decide)))) ?_
    rw [eqv_dS]
  case el => wtm_at "ev"
  case eq => unfold given places; rw [List.map_map]; rfl
def R_can_lie (ds : List PyData) (r : PyData) : Prop := ∃ n xs ws, ds = [.int n, dI xs, dS ws] ∧ (1 ≤ n ∧ n ≤ 60) ∧ stOk n xs ∧ wsOk xs ws ∧ r = dTI (places n xs ws)
theorem ev_can_lie {K : PySem.W.Frag} {ta tb tc : TE} {ρ : List Sl} {M M1 M2 M3 : Ms} {E : XK} {n : Int} {xs : List Int} {ws : List Str} (ha : Ev K ta ρ M (.dat (.int n)) M1) (hb : Ev K tb ρ M1 (.dat (dI xs)) M2) (hc : Ev K tc ρ M2 (.dat (dS ws)) M3) (hn : 1 ≤ n ∧ n ≤ 60) (hl : stOk n xs) (hw : wsOk xs ws) :
    Ev K (tCall (spP K R_can_lie) [] E (tCons ta (tCons tb (tCons tc tNil)))) ρ M (.dat (dTI (places n xs ws))) M3 := ev_callD (ed_cons ha (ed_cons hb (ed_cons hc ed_nil))) ⟨n, xs, ws, rfl, hn, hl, hw, rfl⟩
abbrev sLen : Str := "length"

def cellAt (xs : List Int) (k : Int) : Int := if k < xs.length then xs.getD k.toNat 0 else 0
def R_law_cell_at (ds : List PyData) (r : PyData) : Prop := ∃ (xs : List Int) (k : Int), ds = [dScr xs, .int k] ∧ 0 ≤ k ∧ r = .int (cellAt xs k)
theorem ev_law_cell_at {K : PySem.W.Frag} {ta tb : TE} {ρ : List Sl} {M M1 M2 : Ms} {E : XK} {xs : List Int} {k : Int} (ha : Ev K ta ρ M (.dat (dScr xs)) M1) (hb : Ev K tb ρ M1 (.dat (.int k)) M2) (h : 0 ≤ k) :
    Ev K (tCall (spP K R_law_cell_at) [] E (tCons ta (tCons tb tNil))) ρ M (.dat (.int (cellAt xs k))) M2 := ev_callD (ed_cons ha (ed_cons hb ed_nil)) ⟨xs, k, rfl, h, rfl⟩
abbrev s_law_cell_at : Stmt := topS 25
theorem sc_law_cell_at : FnScope ["script", "k"] ["script", "k"] (defScope s_law_cell_at) := ⟨rfl, rfl, rfl, by decide +kernel, rfl, by decide +kernel, by decide +kernel⟩
theorem ok_law_cell_at (T : Raw K mg "_law_cell_at" "_law_cell_at" s_law_cell_at) (B : Bl mg)    : Has P w K mg base 1 "_law_cell_at" ["script", "k"] (spP K R_law_cell_at) := by
  obtain ⟨f, fd, Fn, hg⟩ := T
  refine ⟨f, fd, okP Fn sc_law_cell_at ?len (fun cdv A outer s H E hr => ⟨_, (pss_cons (ps_if (pt_cmpR op_lt (pv 1) (pe_callB (w_len (K' := K) rfl) (by rfl) B.len_ (by decide +kernel) (pa_cons (pv 0) pa_nil)) (nomark _)) (pss_one (ps_ret (pe_ix (w_ixL (K' := K) rfl) (pv 0) (pv 1) (fun _ _ => rfl)))) pss_nil)
      (pss_one (ps_ret pe_int))), ?_⟩), hg, Fn.kp, Fn.binds fun _ _ _ _ _ _ us hl => match us, hl with | [_, _], _ => rfl⟩
  case len =>
    rintro ds r ⟨xs, k, rfl, h0, rfl⟩; rfl
  rintro ds r ⟨xs, k, rfl, h0, rfl⟩ F L σ H D hrt hnx o
  try dsimp only [cxOf]
  refine q_ifR0 (by wtm_at "et") (fun e H o => s_retP0 ?_ hrt o) (fun e H o => s_retP0 ?_ hrt o) o
  · have e1 := of_decide_eq_true e
    apply ev_isD
    · exact ev_ixScr (by wtm_at "ev") (by wtm_at "ev") h0 e1
    · unfold cellAt; rw [if_pos e1]
  · have e1 := of_decide_eq_false e
    apply ev_isD
    · wtm_at "ev"
    · unfold cellAt; rw [if_neg e1]
local macro_rules | `(tactic| wtm_at "evx") => `(tactic| ((with_reducible apply ev_law_cell_at); (wtm_at "ev"); (wtm_at "ev"); (wtm_at "side")))
abbrev bigP : Int := 2305843009213693951
def drawSt (cell size : Int) : Nat → List Int × Int × Int
  | 0 => ([], cell * (if decide (10 ^ 18 ≤ cell) = true then 1 else 0), cell % bigP)
  | k + 1 =>
    let s := drawSt cell size k
    let st := (s.2.2 * s.2.2 + 48271 * s.2.2 + k + 1) % bigP
    if 2 < k ∧ 0 < s.2.1 then (s.1 ++ [s.2.1 % size], s.2.1 / size, st)
    else if 2 < k then (s.1 ++ [st / 4096 % size], s.2.1, st)
    else (s.1, s.2.1, st)
def drawsOf (cell many size : Int) : List Int := (drawSt cell size (many + 3).toNat).1
theorem drawSt_ok {cell size : Int} (hs : 0 < size) : ∀ k : Nat, (drawSt cell size k).1.length = k - 3 ∧ 0 ≤ (drawSt cell size k).2.1 ∧ 0 ≤ (drawSt cell size k).2.2 ∧ (drawSt cell size k).2.2 < bigP
  | 0 => by
    refine ⟨rfl, ?_, Int.emod_nonneg _ (by decide), Int.emod_lt_of_pos _ (by decide)⟩
    show 0 ≤ cell * _
    split
    · rename_i h
      have := of_decide_eq_true h
      omega
    · omega
  | k + 1 => by
    obtain ⟨h1, h2, h3, h4⟩ := drawSt_ok (cell := cell) (size := size) hs k
    have p : (0 : Int) < bigP := by decide
    unfold drawSt
    dsimp only
    split
    · refine ⟨by rw [List.length_append, h1]; simp; omega, Int.ediv_nonneg h2 (by omega), Int.emod_nonneg _ (by decide), Int.emod_lt_of_pos _ p⟩
    · split
      · refine ⟨by rw [List.length_append, h1]; simp; omega, h2, Int.emod_nonneg _ (by decide), Int.emod_lt_of_pos _ p⟩
      · refine ⟨by rw [h1]; omega, h2, Int.emod_nonneg _ (by decide), Int.emod_lt_of_pos _ p⟩
theorem drawsOf_len {cell many size : Int} (hs : 0 < size) : (drawsOf cell many size).length = many.toNat := by
  unfold drawsOf
  rw [(drawSt_ok hs _).1]; omega
def R_law_draws (ds : List PyData) (rs : List PyData) : Prop := ∃ (cell many size : Int), ds = [.int cell, .int many, .int size] ∧ (0 ≤ many ∧ many ≤ 1000) ∧ (0 < size ∧ size < 1073741824) ∧ rs = (drawsOf cell many size).map PyData.int
theorem ev_law_draws {K : PySem.W.Frag} {ta tb tc : TE} {ρ : List Sl} {M M1 M2 M3 : Ms} {E : XK} {cell many size : Int} (ha : Ev K ta ρ M (.dat (.int cell)) M1) (hb : Ev K tb ρ M1 (.dat (.int many)) M2) (hc : Ev K tc ρ M2 (.dat (.int size)) M3) (h1 : 0 ≤ many ∧ many ≤ 1000) (h2 : 0 < size ∧ size < 1073741824) :
    EvN K (tCall (spN K R_law_draws) [] E (tCons ta (tCons tb (tCons tc tNil)))) ρ M ((drawsOf cell many size).map PyData.int) M3 := evn_callD (ed_cons ha (ed_cons hb (ed_cons hc ed_nil))) ⟨cell, many, size, rfl, h1, h2, rfl⟩
abbrev s_law_draws : Stmt := topS 26
theorem sc_law_draws : FnScope ["cell", "many", "size", "found", "rest", "stirred", "k"] ["cell", "many", "size"] (defScope s_law_draws) := ⟨rfl, rfl, rfl, by decide +kernel, rfl, by decide +kernel, by decide +kernel⟩
theorem ok_law_draws (T : Raw K mg "_law_draws" "_law_draws" s_law_draws) (B : Bl mg)    : Has P w K mg base 1 "_law_draws" ["cell", "many", "size"] (spN K R_law_draws) := by
  obtain ⟨f, fd, Fn, hg⟩ := T
  refine ⟨f, fd, okN Fn sc_law_draws ?len (fun cdv A outer s H E hr => ⟨_, (pss_cons (ps_set (i := 3) sc_law_draws.nd rfl (by first | exact .inl rfl | exact .inr rfl) (pe_lst pa_nil))
      (pss_cons (ps_set (i := 4) sc_law_draws.nd rfl (by first | exact .inl rfl | exact .inr rfl) (pe_op op_mul (pv 0) (pe_callTy c_int1 (by rfl) B.int_ (by decide +kernel) (pa_cons (pe_cmpR op_ge (pv 0) (pe_op op_pow pe_int pe_int) (nomark _)) pa_nil))))
      (pss_cons (ps_set (i := 5) sc_law_draws.nd rfl (by first | exact .inl rfl | exact .inr rfl) (pe_op op_mod (pv 0) pe_int))
      (pss_cons (ps_for PassesOwn.never rfl (pi_range1 (by rfl) B.range_ (pa_cons (pe_op op_add (pv 1) pe_int) pa_nil)) (pg_name (i := 6) sc_law_draws.nd rfl (by first | exact .inl rfl | exact .inr rfl))
      (pss_cons (ps_set (i := 5) sc_law_draws.nd rfl (by first | exact .inl rfl | exact .inr rfl) (pe_op op_mod (pe_op op_add (pe_op op_add (pe_op op_add (pe_op op_mul (pv 5) (pv 5)) (pe_op op_mul pe_int (pv 5))) (pv 6)) pe_int) pe_int))
      (pss_one (ps_if (PW.pt (pw_and (pt_cmpR op_gt (pv 6) pe_int (nomark _)) (pw_and1 (pt_cmpR op_gt (pv 4) pe_int (nomark _))))) (pss_cons (ps_expr (pe_bm PySem.F.plainAttrs_list PySem.F.slot_list_append PySem.F.type_list_append mt_append (pv 3) (pa_cons (pe_op op_mod (pv 4) (pv 2)) pa_nil)))
      (pss_one (ps_set (i := 4) sc_law_draws.nd rfl (by first | exact .inl rfl | exact .inr rfl) (pe_op op_fdiv (pv 4) (pv 2))))) (pss_one (ps_if (pt_cmpR op_gt (pv 6) pe_int (nomark _)) (pss_one (ps_expr (pe_bm PySem.F.plainAttrs_list PySem.F.slot_list_append PySem.F.type_list_append mt_append (pv 3) (pa_cons (pe_op op_mod (pe_op op_fdiv (pv 5) pe_int) (pv 2)) pa_nil)))) pss_nil))))))
      (pss_one (ps_ret (pv 3))))))), ?_⟩), hg, Fn.kp, Fn.binds fun _ _ _ _ _ _ us hl => match us, hl with | [_, _, _], _ => rfl⟩
  case len =>
    rintro ds r ⟨cell, many, size, rfl, hm, hs, rfl⟩; rfl
  rintro ds rs ⟨cell, many, size, rfl, hm, hs, rfl⟩ F L σ H D hrt o
  try dsimp only [cxOf]
  refine q_asgN0 (by wtm_at "en") (fun p σ H o => ?_) o
  refine q_asg0 (ev_mul (i := cell) (j := if decide (10 ^ 18 ≤ cell) = true then 1 else 0) (by wtm_at "ev") (ev_intB (EvA.cons (ev_ge (by wtm_at "ev") (ev_pow ev_int ev_int ⟨by decide, by decide, by decide⟩)) EvA.nil)) ?_) (fun σ H o => ?_) o
  · right; split <;> decide
  refine q_asg0 (ev_mod (by wtm_at "ev") (by wtm_at "ev") (by decide)) (fun σ H o => ?_) o
  refine q_for0 (fun i ρ M => ∃ s6, ρ = [.dat (.int cell), .dat (.int many), .dat (.int size), .loc (.ref p), .dat (.int (drawSt cell size i).2.1), .dat (.int (drawSt cell size i).2.2), s6] ∧ M = [(p, .lst ((drawSt cell size i).1.map PyData.int))])
    (ei_rng1 (by wtm_at "ea") (by omega) (by omega)) (by wtm_at "eg") ⟨.un, rfl, rfl⟩ (fun F' sF i hi ρ M hJ σ H o => ?_) (fun ρ M hJ σ H o => ?_) o
  · obtain ⟨s6, rfl, rfl⟩ := hJ
    obtain ⟨g1, g2, g3, g4⟩ := drawSt_ok (cell := cell) hs.1 i
    have hp : bigP < 2 ^ 64 := by decide
    refine q_asg0 (ev_mod (ev_add (ev_add (ev_add (ev_mul (by wtm_at "ev") (by wtm_at "ev") (.inl ⟨by omega, by omega⟩)) (ev_mul (by wtm_at "ev") (by wtm_at "ev") (.inl ⟨by decide, by decide⟩))) (by wtm_at "ev")) (by wtm_at "ev")) (by wtm_at "ev") (by decide)) (fun σ H o => ?_) o
    have hlen : ((drawSt cell size i).1.map PyData.int).length < 1000000 := by rw [List.length_map, g1]; omega
    refine s_if0 (by wtm_at "et") (fun e H o => ?_) (fun e H o => ?_) o
    · rw [Bool.and_eq_true, decide_eq_true_eq, decide_eq_true_eq] at e
      refine q_app (j := 0) (by wtm_at "ev") (ev_mod (by wtm_at "ev") (by wtm_at "ev") hs.1) rfl rfl hlen (fun σ H o => ?_) o
      refine s_asg0 (ev_div (by wtm_at "ev") (by wtm_at "ev") ⟨hs.1, hs.2⟩) (fun σ H o => ?_) o
      refine ⟨_, _, ⟨.dat (.int (i : Nat)), rfl, rfl⟩, ?_⟩
      have e2 : drawSt cell size (i + 1) = ((drawSt cell size i).1 ++ [(drawSt cell size i).2.1 % size], (drawSt cell size i).2.1 / size, ((drawSt cell size i).2.2 * (drawSt cell size i).2.2 + 48271 * (drawSt cell size i).2.2 + i + 1) % bigP) := by
        conv => lhs; unfold drawSt
        dsimp only
        rw [if_pos ⟨by omega, e.2⟩]
      rw [e2, List.map_append]
      exact o
    · refine s_if0 (by wtm_at "et") (fun e' H o => ?_) (fun e' H o => ?_) o
      · rw [decide_eq_true_eq] at e'
        refine s_app (j := 0) (by wtm_at "ev") (ev_mod (ev_div (by wtm_at "ev") (by wtm_at "ev") ⟨by decide, by decide⟩) (by wtm_at "ev") hs.1) rfl rfl hlen (fun σ H o => ?_) o
        refine ⟨_, _, ⟨.dat (.int (i : Nat)), rfl, rfl⟩, ?_⟩
        have e2 : drawSt cell size (i + 1) = ((drawSt cell size i).1 ++ [((drawSt cell size i).2.2 * (drawSt cell size i).2.2 + 48271 * (drawSt cell size i).2.2 + i + 1) % bigP / 4096 % size], (drawSt cell size i).2.1, ((drawSt cell size i).2.2 * (drawSt cell size i).2.2 + 48271 * (drawSt cell size i).2.2 + i + 1) % bigP) := by
          conv => lhs; unfold drawSt
          dsimp only
          rw [if_neg (fun z => by
            rw [Bool.and_eq_false_iff, decide_eq_false_iff_not, decide_eq_false_iff_not] at e
            rcases e with e | e
            · exact e e'
            · exact e z.2), if_pos (by omega)]
        rw [e2, List.map_append]
        exact o
      · rw [decide_eq_false_iff_not] at e'
        refine ⟨_, _, ⟨.dat (.int (i : Nat)), rfl, rfl⟩, ?_⟩
        have e2 : drawSt cell size (i + 1) = ((drawSt cell size i).1, (drawSt cell size i).2.1, ((drawSt cell size i).2.2 * (drawSt cell size i).2.2 + 48271 * (drawSt cell size i).2.2 + i + 1) % bigP) := by
          conv => lhs; unfold drawSt
          dsimp only
          rw [if_neg (fun z => by omega), if_neg (by omega)]
        rw [e2]
        exact o
  · obtain ⟨s6, rfl, rfl⟩ := hJ
    exact s_retMN0 0 (by wtm_at "ev") rfl hrt o
local macro_rules | `(tactic| wtm_at "evx") => `(tactic| ((with_reducible apply ev_law_draws); (wtm_at "ev"); (wtm_at "ev"); (wtm_at "ev"); (wtm_at "side"); (wtm_at "side")))
def bagOf (xs : List Int) (k : Int) : List PyData := [dI (drawsOf (cellAt xs k) 400 1000), .int 0]
def R_law_bag (ds : List PyData) (rs : List PyData) : Prop := ∃ (xs : List Int) (k : Int), ds = [dScr xs, .int k] ∧ 0 ≤ k ∧ rs = bagOf xs k
theorem ev_law_bag {K : PySem.W.Frag} {ta tb : TE} {ρ : List Sl} {M M1 M2 : Ms} {E : XK} {xs : List Int} {k : Int} (ha : Ev K ta ρ M (.dat (dScr xs)) M1) (hb : Ev K tb ρ M1 (.dat (.int k)) M2) (h : 0 ≤ k) :
    EvN K (tCall (spN K R_law_bag) [] E (tCons ta (tCons tb tNil))) ρ M (bagOf xs k) M2 := evn_callD (ed_cons ha (ed_cons hb ed_nil)) ⟨xs, k, rfl, h, rfl⟩
abbrev s_law_bag : Stmt := topS 28
theorem sc_law_bag : FnScope ["script", "k"] ["script", "k"] (defScope s_law_bag) := ⟨rfl, rfl, rfl, by decide +kernel, rfl, by decide +kernel, by decide +kernel⟩
theorem ok_law_bag (T : Raw K mg "_law_bag" "_law_bag" s_law_bag) (B : Bl mg)   (h_law_draws : Has P w K mg base 1 "_law_draws" ["cell", "many", "size"] (spN K R_law_draws)) (h_law_cell_at : Has P w K mg base 1 "_law_cell_at" ["script", "k"] (spP K R_law_cell_at)) : Has P w K mg base 2 "_law_bag" ["script", "k"] (spN K R_law_bag) := by
  obtain ⟨f, fd, Fn, hg⟩ := T
  obtain ⟨_, _, G_law_draws, g_law_draws, k_law_draws, b_law_draws⟩ := h_law_draws
  obtain ⟨_, _, G_law_cell_at, g_law_cell_at, k_law_cell_at, b_law_cell_at⟩ := h_law_cell_at
  refine ⟨f, fd, okN Fn sc_law_bag ?len (fun cdv A outer s H E hr => ⟨_, (pss_one (ps_ret (pe_lst (pa_cons (pe_call G_law_draws (hr.mono (by first | decide | omega)) (by rfl) g_law_draws k_law_draws b_law_draws .nil pass0 (pa_cons (pe_call G_law_cell_at (hr.mono (by first | decide | omega)) (by rfl) g_law_cell_at k_law_cell_at b_law_cell_at .nil pass0 (pa_cons (pv 0) (pa_cons (pv 1) pa_nil))) (pa_cons pe_int (pa_cons pe_int pa_nil)))) (pa_cons pe_int pa_nil))))), ?_⟩), hg, Fn.kp, Fn.binds fun _ _ _ _ _ _ us hl => match us, hl with | [_, _], _ => rfl⟩
  case len =>
    rintro ds r ⟨xs, k, rfl, h0, rfl⟩; rfl
  rintro ds rs ⟨xs, k, rfl, h0, rfl⟩ F L σ H D hrt o
  try dsimp only [cxOf]
  exact s_retNN0 (evn_lstD (ed_cons (by wtm_at "ev") (ed_cons ev_int ed_nil)) (by simp)) hrt o
def nBags (xs : List Int) (lim : Int) : Nat := (max 1 (min lim xs.length)).toNat
def R_law_bags (ds : List PyData) (n : Nat) (bd : Nat → List PyData) : Prop := ∃ (xs : List Int) (lim : Int), ds = [dScr xs, .int lim] ∧ (0 ≤ lim ∧ lim ≤ 1000) ∧ n = nBags xs lim ∧ bd = fun j => bagOf xs (j : Nat)
theorem evb_law_bags {K : PySem.W.Frag} {ta tb : TE} {ρ : List Sl} {E : XK} {xs : List Int} {lim : Int} (ha : Ev K ta ρ [] (.dat (dScr xs)) []) (hb : Ev K tb ρ [] (.dat (.int lim)) []) (h : 0 ≤ lim ∧ lim ≤ 1000) :
    EvB K (tCall (spB K R_law_bags) [] E (tCons ta (tCons tb tNil))) ρ (nBags xs lim) (fun j => bagOf xs (j : Nat)) := evb_call (ed_cons ha (ed_cons hb ed_nil)) ⟨xs, lim, rfl, h, rfl, rfl⟩
/-- a bag as it stands behind some draws -/
abbrev bg (dr : List Int) (pos : Int) : MO := .lst [dI dr, .int pos]
theorem bagOf_eq (xs : List Int) (k : Int) : ∃ dr : List Int, 0 < dr.length ∧ bagOf xs k = [dI dr, .int 0] := ⟨drawsOf (cellAt xs k) 400 1000, by rw [drawsOf_len (by decide)]; decide, rfl⟩
abbrev s_law_bags : Stmt := topS 29
theorem sc_law_bags : FnScope ["script", "limit", "k"] ["script", "limit"] (defScope s_law_bags) := ⟨rfl, rfl, rfl, by decide +kernel, rfl, by decide +kernel, by decide +kernel⟩
theorem ok_law_bags (T : Raw K mg "_law_bags" "_law_bags" s_law_bags) (B : Bl mg)   (h_law_bag : Has P w K mg base 2 "_law_bag" ["script", "k"] (spN K R_law_bag)) : Has P w K mg base 3 "_law_bags" ["script", "limit"] (spB K R_law_bags) := by
  obtain ⟨f, fd, Fn, hg⟩ := T
  obtain ⟨_, _, G_law_bag, g_law_bag, k_law_bag, b_law_bag⟩ := h_law_bag
  refine ⟨f, fd, okB Fn sc_law_bags ?len (fun cdv A outer s H E hr => ⟨_, (pss_one (ps_ret (pe_lc (own := [("k", 2)]) (g := gName 2) rfl sc_law_bags.nd (pi_range1 (by rfl) B.range_ (pa_cons (pe_callB (c_max2 rfl) (by rfl) B.max_ (by decide +kernel) (pa_cons pe_int (pa_cons (pe_callB (c_min2 rfl) (by rfl) B.min_ (by decide +kernel) (pa_cons (pv 1) (pa_cons (pe_callB (w_len (K' := K) rfl) (by rfl) B.len_ (by decide +kernel) (pa_cons (pv 0) pa_nil)) pa_nil))) pa_nil))) pa_nil)) (blkOk_by (own := [("k", 2)]) (N := ["script", "limit", "k"]) (sc := defScope s_law_bags) (by decide +kernel)) (fun _ _ _ _ _ => (pg_name (i := 2) sc_law_bags.nd rfl (by first | exact .inl rfl | exact .inr rfl))) (fun _ _ _ _ _ => pts_nil) (fun _ _ _ _ _ => (pe_call G_law_bag (hr.mono (by first | decide | omega)) (by rfl) g_law_bag k_law_bag b_law_bag .nil pass0 (pa_cons (pv 0) (pa_cons (pv 2) pa_nil))))))), ?_⟩), hg, Fn.kp, Fn.binds fun _ _ _ _ _ _ us hl => match us, hl with | [_, _], _ => rfl⟩
  case len =>
    rintro ds n bd ⟨xs, lim, rfl, hl, rfl, rfl⟩; rfl
  rintro ds n bd ⟨xs, lim, rfl, hl, rfl, rfl⟩ F L σ H D hrt o
  try dsimp only [cxOf]
  refine evb_lc (item := fun i => .int (i : Nat)) (j := 2) (n := nBags xs lim) (bd := fun j => bagOf xs (j : Nat)) ?hi (fun i hi => eg_name) (fun i hi => ?he) ?hl F L σ H o _ (fun a ps H1 s1 hb _ => hrt a ps H1 s1 hb)
  case hi =>
    exact ei_rng1 (j := max 1 (min lim (xs.length : Nat))) (by wtm_at "ea") (by omega) (by omega)
  case he => exact ev_law_bag (by wtm_at "ev") (by wtm_at "ev") (by omega)
  case hl => unfold nBags; omega
def tk (dr : List Int) (pos many : Int) : Int := dr.getD ((pos + 1) % dr.length).toNat 0 % many
theorem tk_lo {dr : List Int} {pos many : Int} (h : 0 < many) : 0 ≤ tk dr pos many := Int.emod_nonneg _ (by omega)
theorem tk_hi {dr : List Int} {pos many : Int} (h : 0 < many) : tk dr pos many < many := Int.emod_lt_of_pos _ h
def R_law_take (y : MO) (ds : List PyData) (r : PyData) (y' : MO) : Prop := ∃ (dr : List Int) (pos many : Int), y = bg dr pos ∧ ds = [.int many] ∧ 0 < dr.length ∧ 0 ≤ pos ∧ 0 < many ∧ r = .int (tk dr pos many) ∧ y' = bg dr (pos + 1)
theorem ev_take {K : PySem.W.Frag} {ta tb : TE} {ρ : List Sl} {M M1 M2 : Ms} {E : XK} {p : Addr} {dr : List Int} {pos many : Int} (j : Nat) (ha : Ev K ta ρ M (.loc (.ref p)) M1) (hb : Ev K tb ρ M1 (.dat (.int many)) M2) (hj : M2[j]? = some (p, bg dr pos)) (h : 0 < many) (hd : 0 < dr.length) (h0 : 0 ≤ pos) :
    Ev K (tCall (spM K R_law_take) [] E (tCons ta (tCons tb tNil))) ρ M (.dat (.int (tk dr pos many))) (M2.set j (p, bg dr (pos + 1))) := ev_callMD j ha (ed_cons hb ed_nil) hj ⟨dr, pos, many, rfl, rfl, hd, h0, h, rfl, rfl⟩
abbrev s_law_take : Stmt := topS 30
theorem sc_law_take : FnScope ["bag", "many"] ["bag", "many"] (defScope s_law_take) := ⟨rfl, rfl, rfl, by decide +kernel, rfl, by decide +kernel, by decide +kernel⟩
theorem ok_law_take (T : Raw K mg "_law_take" "_law_take" s_law_take) (B : Bl mg)    : Has P w K mg base 1 "_law_take" ["bag", "many"] (spM K R_law_take) := by
  obtain ⟨f, fd, Fn, hg⟩ := T
  refine ⟨f, fd, okM Fn sc_law_take ?len (fun cdv A outer s H E hr => ⟨_, (pss_cons (ps_asg (pe_op op_add (pe_ix (w_ixL (K' := K) rfl) (pv 0) pe_int (fun _ _ => rfl)) pe_int) (pg_sub (pv 0) pe_int set_list))
      (pss_one (ps_ret (pe_op op_mod (pe_ix (w_ixL (K' := K) rfl) (pe_ix (w_ixL (K' := K) rfl) (pv 0) pe_int (fun _ _ => rfl)) (pe_op op_mod (pe_ix (w_ixL (K' := K) rfl) (pv 0) pe_int (fun _ _ => rfl)) (pe_callB (w_len (K' := K) rfl) (by rfl) B.len_ (by decide +kernel) (pa_cons (pe_ix (w_ixL (K' := K) rfl) (pv 0) pe_int (fun _ _ => rfl)) pa_nil))) (fun _ _ => rfl)) (pv 1))))), ?_⟩), hg, Fn.kp, Fn.binds fun _ _ _ _ _ _ us hl => match us, hl with | [_, _], _ => rfl⟩
  case len =>
    rintro y ds r y' ⟨dr, pos, many, rfl, rfl, hd, h0, hm, rfl, rfl⟩; rfl
  rintro y ds r y' ⟨dr, pos, many, rfl, rfl, hd, h0, hm, rfl, rfl⟩ F L p σ H D hrt hp o
  try dsimp only [cxOf]
  have hmem : ∀ pos : Int, (p, bg dr pos) ∈ [(p, bg dr pos)] := fun _ => List.mem_singleton.mpr rfl
  have hl : (0 : Int) < dr.length := by omega
  refine q_setL (j := 0) (n := 1) (ev_add (ev_ixM (by wtm_at "ev") (by wtm_at "ev") (hmem pos) rfl) ev_int) (by wtm_at "ev") (by wtm_at "ev") rfl (by rfl) (fun σ H o => ?_) o
  replace o : Ok K F L σ H (st0 ["bag", "many"] (Sl.loc (V.ref p) :: List.map Sl.dat [PyData.int many])) [(p, bg dr (pos + 1))] := o
  have e1 : (0 : Int) ≤ (pos + 1) % dr.length := Int.emod_nonneg _ (by omega)
  have e2 : (pos + 1) % dr.length < dr.length := Int.emod_lt_of_pos _ hl
  refine s_ret (ev_mod (i := dr.getD ((pos + 1) % dr.length).toNat 0) (j := many) (ev_ixI (ns := dr) (i := (pos + 1) % dr.length) (ev_ixM (by wtm_at "ev") ev_int (hmem (pos + 1)) rfl) (ev_mod (ev_ixM (by wtm_at "ev") ev_int (hmem (pos + 1)) rfl) (ev_isD (ev_lenL (ds := dr.map PyData.int) (EvA.cons (ev_ixM (by wtm_at "ev") ev_int (hmem (pos + 1)) rfl) EvA.nil)) (by rw [List.length_map])) hl) e1 e2) (by wtm_at "ev") hm) (fun v H1 o1 x1 => ?_) o
  refine hrt v H1 o1.fr ?_ (Dp.mono (hid_sub fun _ z => List.mem_append_left _ z) x1)
  exact (o1.ob (p, bg dr (pos + 1)) (List.mem_singleton.mpr rfl)).mono (hid_sub fun _ z => List.mem_append_left _ z) rfl
local macro_rules | `(tactic| wtm_at "evx") => `(tactic| ((with_reducible apply ev_take 0); (wtm_at "ev"); (wtm_at "ev"); (rfl); (wtm_at "side"); (wtm_at "side"); (wtm_at "side")))
def ssSt (dr : List Int) (len pos : Int) : Nat → List Int × Int
  | 0 => ([], pos)
  | k + 1 =>
    let s := ssSt dr len pos k
    if s.1 = [] then (s.1 ++ [1 + tk dr s.2 len], s.2 + 1)
    else if tk dr (s.2 + 1) 3 = 0 then (s.1 ++ [max 1 (min len (s.1.getD (s.1.length - 1) 0 + tk dr (s.2 + 1 + 1) 5 - 2))], s.2 + 1 + 1 + 1)
    else (s.1 ++ [1 + tk dr s.2 len], s.2 + 1 + 1)
theorem ssSt_ok {dr : List Int} {len pos : Int} (hl : 1 ≤ len) (hp : 0 ≤ pos) : ∀ k : Nat, (ssSt dr len pos k).1.length = k ∧ 0 ≤ (ssSt dr len pos k).2 ∧ ∀ x ∈ (ssSt dr len pos k).1, 1 ≤ x ∧ x ≤ len
  | 0 => ⟨rfl, hp, fun x hx => by simp [ssSt] at hx⟩
  | k + 1 => by
    obtain ⟨h1, h2, h3⟩ := ssSt_ok (dr := dr) hl hp k
    have t1 := tk_lo (dr := dr) (pos := (ssSt dr len pos k).2) (many := len) (by omega)
    have t2 := tk_hi (dr := dr) (pos := (ssSt dr len pos k).2) (many := len) (by omega)
    unfold ssSt
    dsimp only
    split
    · refine ⟨by simp [h1], by omega, fun x hx => ?_⟩
      rcases List.mem_append.mp hx with z | z
      · exact h3 x z
      · have e := List.mem_singleton.mp z
        omega
    · split
      · refine ⟨by simp [h1], by omega, fun x hx => ?_⟩
        rcases List.mem_append.mp hx with z | z
        · exact h3 x z
        · have e := List.mem_singleton.mp z
          omega
      · refine ⟨by simp [h1], by omega, fun x hx => ?_⟩
        rcases List.mem_append.mp hx with z | z
        · exact h3 x z
        · have e := List.mem_singleton.mp z
          omega
def ssN (dr : List Int) (pos most : Int) : Nat := (tk dr pos (most + 1)).toNat
def R_law_some_stands (y : MO) (ds : List PyData) (rs : List PyData) (y' : MO) : Prop := ∃ (dr : List Int) (pos len most : Int), y = bg dr pos ∧ ds = [.int len, .int most] ∧ 0 < dr.length ∧ 0 ≤ pos ∧ 1 ≤ len ∧ (0 ≤ most ∧ most ≤ 1000) ∧
  rs = (ssSt dr len (pos + 1) (ssN dr pos most)).1.map PyData.int ∧ y' = bg dr (ssSt dr len (pos + 1) (ssN dr pos most)).2
theorem ev_some_stands {K : PySem.W.Frag} {ta tb tc : TE} {ρ : List Sl} {M M1 M2 M3 : Ms} {E : XK} {p : Addr} {dr : List Int} {pos len most : Int} (j : Nat) (ha : Ev K ta ρ M (.loc (.ref p)) M1) (hb : Ev K tb ρ M1 (.dat (.int len)) M2) (hc : Ev K tc ρ M2 (.dat (.int most)) M3) (hj : M3[j]? = some (p, bg dr pos)) (hd : 0 < dr.length) (h0 : 0 ≤ pos) (h1 : 1 ≤ len) (h2 : 0 ≤ most ∧ most ≤ 1000) :
    EvN K (tCall (spMN K R_law_some_stands) [] E (tCons ta (tCons tb (tCons tc tNil)))) ρ M ((ssSt dr len (pos + 1) (ssN dr pos most)).1.map PyData.int) (M3.set j (p, bg dr (ssSt dr len (pos + 1) (ssN dr pos most)).2)) := evn_callMD j ha (ed_cons hb (ed_cons hc ed_nil)) hj ⟨dr, pos, len, most, rfl, rfl, hd, h0, h1, h2, rfl, rfl⟩
def R_law_word (ds : List PyData) (r : PyData) : Prop := ∃ f n : Int, ds = [.int f, .int n] ∧ r = .str (wordOf f n)
theorem ev_law_word {K : PySem.W.Frag} {ta tb : TE} {ρ : List Sl} {M M1 M2 : Ms} {E : XK} {f n : Int} (ha : Ev K ta ρ M (.dat (.int f)) M1) (hb : Ev K tb ρ M1 (.dat (.int n)) M2) :
    Ev K (tCall (spP K R_law_word) [] E (tCons ta (tCons tb tNil))) ρ M (.dat (.str (wordOf f n))) M2 := ev_callD (ed_cons ha (ed_cons hb ed_nil)) ⟨f, n, rfl, rfl⟩
abbrev s_law_word : Stmt := topS 31
theorem sc_law_word : FnScope ["far", "near"] ["far", "near"] (defScope s_law_word) := ⟨rfl, rfl, rfl, by decide +kernel, rfl, by decide +kernel, by decide +kernel⟩
theorem ok_law_word (T : Raw K mg "_law_word" "_law_word" s_law_word) (B : Bl mg)    : Has P w K mg base 1 "_law_word" ["far", "near"] (spP K R_law_word) := by
  obtain ⟨f, fd, Fn, hg⟩ := T
  refine ⟨f, fd, okP Fn sc_law_word ?len (fun cdv A outer s H E hr => ⟨_, (pss_cons (ps_if (pt_cmpR op_lt (pv 1) (pv 0) (nomark _)) (pss_one (ps_ret pe_str)) pss_nil)
      (pss_one (ps_ret (pe_ifExp (pt_cmpR op_gt (pv 1) (pv 0) (nomark _)) pe_str pe_str)))), ?_⟩), hg, Fn.kp, Fn.binds fun _ _ _ _ _ _ us hl => match us, hl with | [_, _], _ => rfl⟩
  case len =>
    rintro ds r ⟨f, n, rfl, rfl⟩; rfl
  rintro ds r ⟨f, n, rfl, rfl⟩ F L σ H D hrt hnx o
  try dsimp only [cxOf]
  refine q_ifR0 (b := decide (n < f)) (by wtm_at "et") (fun e H o => s_retP0 ?_ hrt o) (fun e H o => s_retP0 ?_ hrt o) o
  · have e1 := of_decide_eq_true e
    wtm_at "evd"
    unfold wordOf; rw [if_neg (by omega), if_pos e1]; rfl
  · have e1 := of_decide_eq_false e
    wtm_at "evd"
    unfold wordOf
    by_cases h : f < n
    · rw [decide_eq_true h, if_pos rfl, if_neg (show ¬ f = n by omega), if_neg e1]; rfl
    · rw [decide_eq_false h, if_neg Bool.false_ne_true, if_pos (show f = n by omega)]; rfl
local macro_rules | `(tactic| wtm_at "evx") => `(tactic| ((with_reducible apply ev_law_word) <;> wtm_at "ev"))
def R_law_words (ds : List PyData) (rs : List PyData) : Prop := ∃ (t : Int) (xs : List Int), ds = [.int t, dI xs] ∧ xs.length ≤ 1000 ∧ rs = (answers t xs).map PyData.str
theorem ev_law_words {K : PySem.W.Frag} {ta tb : TE} {ρ : List Sl} {M M1 M2 : Ms} {E : XK} {t : Int} {xs : List Int} (ha : Ev K ta ρ M (.dat (.int t)) M1) (hb : Ev K tb ρ M1 (.dat (dI xs)) M2) (hl : xs.length ≤ 1000) :
    EvN K (tCall (spN K R_law_words) [] E (tCons ta (tCons tb tNil))) ρ M ((answers t xs).map PyData.str) M2 := evn_callD (ed_cons ha (ed_cons hb ed_nil)) ⟨t, xs, rfl, hl, rfl⟩
abbrev s_law_words : Stmt := topS 32
theorem sc_law_words : FnScope ["thing", "stands", "found", "place"] ["thing", "stands"] (defScope s_law_words) := ⟨rfl, rfl, rfl, by decide +kernel, rfl, by decide +kernel, by decide +kernel⟩
theorem ok_law_words (T : Raw K mg "_law_words" "_law_words" s_law_words) (B : Bl mg)   (h_law_word : Has P w K mg base 1 "_law_word" ["far", "near"] (spP K R_law_word)) : Has P w K mg base 2 "_law_words" ["thing", "stands"] (spN K R_law_words) := by
  obtain ⟨f, fd, Fn, hg⟩ := T
  obtain ⟨_, _, G_law_word, g_law_word, k_law_word, b_law_word⟩ := h_law_word
  refine ⟨f, fd, okN Fn sc_law_words ?len (fun cdv A outer s H E hr => ⟨_, (pss_cons (ps_set (i := 2) sc_law_words.nd rfl (by first | exact .inl rfl | exact .inr rfl) (pe_lst pa_nil))
      (pss_cons (ps_for PassesOwn.never rfl (pi_range2 (by rfl) B.range_ (pa_cons pe_int (pa_cons (pe_callB (w_len (K' := K) rfl) (by rfl) B.len_ (by decide +kernel) (pa_cons (pv 1) pa_nil)) pa_nil))) (pg_name (i := 3) sc_law_words.nd rfl (by first | exact .inl rfl | exact .inr rfl))
      (pss_one (ps_expr (pe_bm PySem.F.plainAttrs_list PySem.F.slot_list_append PySem.F.type_list_append mt_append (pv 2) (pa_cons (pe_call G_law_word (hr.mono (by first | decide | omega)) (by rfl) g_law_word k_law_word b_law_word .nil pass0 (pa_cons (pe_callB c_abs (by rfl) B.abs_ (by decide +kernel) (pa_cons (pe_op op_sub (pv 0) (pe_ix (w_ixL (K' := K) rfl) (pv 1) (pe_op op_sub (pv 3) pe_int) (fun _ _ => rfl))) pa_nil)) (pa_cons (pe_callB c_abs (by rfl) B.abs_ (by decide +kernel) (pa_cons (pe_op op_sub (pv 0) (pe_ix (w_ixL (K' := K) rfl) (pv 1) (pv 3) (fun _ _ => rfl))) pa_nil)) pa_nil))) pa_nil)))))
      (pss_one (ps_ret (pv 2))))), ?_⟩), hg, Fn.kp, Fn.binds fun _ _ _ _ _ _ us hl => match us, hl with | [_, _], _ => rfl⟩
  case len =>
    rintro ds r ⟨t, xs, rfl, hl, rfl⟩; rfl
  rintro ds rs ⟨t, xs, rfl, hl, rfl⟩ F L σ H D hrt o
  try dsimp only [cxOf]
  refine q_asgN0 (by wtm_at "en") (fun q σ H o => ?_) o
  have hlm : ((xs.map PyData.int).length : Int) ≤ 1000 := by rw [List.length_map]; omega
  refine q_for0 (fun i ρ M => ∃ s3, ρ = [.dat (.int t), .dat (dI xs), .loc (.ref q), s3] ∧ M = [(q, .lst ((List.range i).map fun k => .str (ansOf t (xs.getD k 0) (xs.getD (k + 1) 0))))])
    (ei_rng2 (by wtm_at "ea") (by omega)) (by wtm_at "eg") ⟨.un, rfl, rfl⟩ (fun F' sF i hi ρ M hJ σ H o => ?_) (fun ρ M hJ σ H o => ?_) o
  · obtain ⟨s3, rfl, rfl⟩ := hJ
    rw [List.length_map] at hi
    refine s_app (j := 0) (d := .str (wordOf (t - xs.getD (1 + (i : Nat) - 1 : Int).toNat 0).natAbs (t - xs.getD (1 + (i : Nat) : Int).toNat 0).natAbs)) (by wtm_at "ev")
      (ev_law_word (ev_abs (EvA.cons (ev_sub (ev_varD rfl) (ev_ixI (ev_varD rfl) (ev_sub (ev_varD rfl) ev_int) (by omega) (by omega))) EvA.nil)) (ev_abs (EvA.cons (ev_sub (ev_varD rfl) (ev_ixI (ev_varD rfl) (ev_varD rfl) (by omega) (by omega))) EvA.nil))) rfl rfl (by simp; omega) (fun σ H o => ?_) o
    refine ⟨_, _, ⟨.dat (.int (1 + (i : Nat))), rfl, rfl⟩, ?_⟩
    rw [List.range_succ, List.map_append]
    have e1 : (1 + (i : Nat) - 1 : Int).toNat = i := by omega
    have e2 : (1 + (i : Nat) : Int).toNat = i + 1 := by omega
    rw [e1, e2] at o
    exact o
  · obtain ⟨s3, rfl, rfl⟩ := hJ
    refine s_retMN0 0 (by wtm_at "ev") rfl (fun p us H1 a b c d => hrt p us H1 a b c ?_) o
    have e : (((xs.map PyData.int).length : Int) - 1).toNat = xs.length - 1 := by rw [List.length_map]; omega
    rw [e] at d
    unfold answers
    rw [List.map_map]
    exact d
local macro_rules | `(tactic| wtm_at "evx") => `(tactic| ((with_reducible apply ev_law_words); (wtm_at "ev"); (wtm_at "ev"); (wtm_at "side")))
/-! the law's draws, as numbers of which the bounds alone are told -/
section
variable {K : PySem.W.Frag} {ρ : List Sl} {p : Addr} {dr : List Int} {pos pos' : Int} {Mr : Ms} {b : Nat} {E E' : XK} {ta tb tc : TE}
theorem x_take {many : Int} (hρ : ρ[b]? = some (.loc (.ref p))) (hb : Ev K tb ρ ((p, bg dr pos) :: Mr) (.dat (.int many)) ((p, bg dr pos') :: Mr)) (hd : 0 < dr.length) (h0 : 0 ≤ pos') (hm : 0 < many) :
    ∃ t c, (0 ≤ t ∧ t < many) ∧ 0 ≤ c ∧ Ev K (tCall (spM K R_law_take) [] E (tCons (tVar b) (tCons tb tNil))) ρ ((p, bg dr pos) :: Mr) (.dat (.int t)) ((p, bg dr c) :: Mr) :=
  ⟨tk dr pos' many, pos' + 1, ⟨tk_lo hm, tk_hi hm⟩, by omega, ev_take (M1 := (p, bg dr pos) :: Mr) (M2 := (p, bg dr pos') :: Mr) 0 (ev_varL hρ) hb rfl hm hd h0⟩
/-- 1 + take(bag, [x, y][take(bag, 2)]) -/
theorem x_len2 {x y : Int} (hρ : ρ[b]? = some (.loc (.ref p))) (hd : 0 < dr.length) (h0 : 0 ≤ pos) (hx : 0 < x) (hy : 0 < y) :
    ∃ n c, (1 ≤ n ∧ n ≤ max x y) ∧ 0 ≤ c ∧ Ev K (tOp (rI0 fun i j => .int (i + j)) (tC (.int 1)) (tCall (spM K R_law_take) [] E (tCons (tVar b) (tCons (tOp (rIxL K) (tLst (tCons (tC (.int x)) (tCons (tC (.int y)) tNil))) (tCall (spM K R_law_take) [] E' (tCons (tVar b) (tCons (tC (.int 2)) tNil)))) tNil)))) ρ ((p, bg dr pos) :: Mr) (.dat (.int n)) ((p, bg dr c) :: Mr) := by
  obtain ⟨t, c, ht, hc, e1⟩ := x_take (K := K) (ρ := ρ) (E := E') (tb := tC (.int 2)) (Mr := Mr) hρ ev_int hd h0 (by decide : (0 : Int) < 2)
  have hv : [x, y].getD t.toNat 0 = x ∨ [x, y].getD t.toNat 0 = y := by
    have : t = 0 ∨ t = 1 := by omega
    rcases this with h | h <;> subst h
    · exact .inl rfl
    · exact .inr rfl
  have hv0 : 0 < [x, y].getD t.toNat 0 := by rcases hv with h | h <;> rw [h] <;> assumption
  have hv1 : [x, y].getD t.toNat 0 ≤ max x y := by rcases hv with h | h <;> rw [h] <;> omega
  have e2 : Ev K (tOp (rIxL K) (tLst (tCons (tC (.int x)) (tCons (tC (.int y)) tNil))) (tCall (spM K R_law_take) [] E' (tCons (tVar b) (tCons (tC (.int 2)) tNil)))) ρ ((p, bg dr pos) :: Mr) (.dat (.int ([x, y].getD t.toNat 0))) ((p, bg dr c) :: Mr) :=
    ev_ixI (ns := [x, y]) (EvN.ev (evn_lstD (ed_cons ev_int (ed_cons ev_int ed_nil)) (by simp))) e1 ht.1 (by exact ht.2)
  obtain ⟨u, c2, hu, hc2, e3⟩ := x_take (K := K) (ρ := ρ) (E := E) (Mr := Mr) hρ e2 hd hc hv0
  exact ⟨1 + u, c2, by omega, hc2, ev_add ev_int e3⟩
/-- 1 + take(bag, n) -/
theorem x_one {n : Int} (hρ : ρ[b]? = some (.loc (.ref p))) (hb : Ev K tb ρ ((p, bg dr pos) :: Mr) (.dat (.int n)) ((p, bg dr pos') :: Mr)) (hd : 0 < dr.length) (h0 : 0 ≤ pos') (hn : 0 < n) :
    ∃ t c, (1 ≤ t ∧ t ≤ n) ∧ 0 ≤ c ∧ Ev K (tOp (rI0 fun i j => .int (i + j)) (tC (.int 1)) (tCall (spM K R_law_take) [] E (tCons (tVar b) (tCons tb tNil)))) ρ ((p, bg dr pos) :: Mr) (.dat (.int t)) ((p, bg dr c) :: Mr) := by
  obtain ⟨t, c, ht, hc, e1⟩ := x_take (K := K) (ρ := ρ) (E := E) (Mr := Mr) hρ hb hd h0 hn
  exact ⟨1 + t, c, by omega, hc, ev_add ev_int e1⟩
theorem x_stands {n most : Int} (hρ : ρ[b]? = some (.loc (.ref p))) (hb : Ev K tb ρ ((p, bg dr pos) :: Mr) (.dat (.int n)) ((p, bg dr pos) :: Mr)) (hc : Ev K tc ρ ((p, bg dr pos) :: Mr) (.dat (.int most)) ((p, bg dr pos') :: Mr)) (hd : 0 < dr.length) (h0 : 0 ≤ pos') (hn : 1 ≤ n) (hm : 0 ≤ most ∧ most ≤ 1000) :
    ∃ (st : List Int) (c : Int), ((st.length : Int) ≤ most ∧ ∀ x ∈ st, 1 ≤ x ∧ x ≤ n) ∧ 0 ≤ c ∧ EvN K (tCall (spMN K R_law_some_stands) [] E (tCons (tVar b) (tCons tb (tCons tc tNil)))) ρ ((p, bg dr pos) :: Mr) (st.map PyData.int) ((p, bg dr c) :: Mr) := by
  obtain ⟨g1, g2, g3⟩ := ssSt_ok (dr := dr) (len := n) (pos := pos' + 1) hn (by omega) (ssN dr pos' most)
  refine ⟨_, _, ⟨?_, g3⟩, g2, ev_some_stands (M1 := (p, bg dr pos) :: Mr) (M2 := (p, bg dr pos) :: Mr) (M3 := (p, bg dr pos') :: Mr) 0 (ev_varL hρ) hb hc rfl hd h0 hn hm⟩
  rw [g1]
  unfold ssN
  have := tk_lo (dr := dr) (pos := pos') (many := most + 1) (by omega)
  have := tk_hi (dr := dr) (pos := pos') (many := most + 1) (by omega)
  omega
end

/-! a kept search: the class's methods -/
structure SearchC (K : PySem.W.Frag) (mg : Str → Option Value) (C : Addr) : Prop where
  cl : Cls K C
  nL : NoAttr K C "length"
  nP : NoAttr K C "past"
  g : mg "Search" = some (.ref C)
abbrev Hst := List (List Int × List Str)
abbrev srF (n : Nat) (q : Addr) : List (Str × Sl) := [("length", .dat (.int n)), ("past", .loc (.ref q))]
abbrev stD (h : List Int × List Str) : PyData := .tuple [dI h.1, dS h.2]
abbrev pstD (hs : Hst) : List PyData := hs.map stD
abbrev srM (C : Addr) (n : Nat) (hs : Hst) (p q : Addr) : Ms := [(p, .ins C (srF n q)), (q, .lst (pstD hs))]
abbrev sPast : Str := "past"
theorem kLP : ¬ (sLen = sPast) := by decide +kernel
theorem sr_put (a b : Sl) : putS sPast b [(sLen, a)] = [(sLen, a), (sPast, b)] := by
  show (if sLen = sPast then _ else (sLen, a) :: [(sPast, b)]) = _
  rw [if_neg kLP]
theorem sr_len (n : Nat) (q : Addr) : (srF n q).lookup sLen = some (.dat (.int n)) := by
  rw [List.lookup_cons, show (sLen == "length") = true by decide +kernel]
theorem sr_past (n : Nat) (q : Addr) : (srF n q).lookup sPast = some (.loc (.ref q)) := by
  rw [List.lookup_cons, show (sPast == "length") = false by decide +kernel]
  dsimp only
  rw [List.lookup_cons, show (sPast == "past") = true by decide +kernel]
theorem sr_no (n : Nat) (q : Addr) {m : Str} (h : m ∈ (["waits", "stand", "answer", "back", "stands", "answers", "can_lie"] : List Str)) : (srF n q).lookup m = none := by
  have g : (m == "length") = false ∧ (m == "past") = false := by
    revert h; revert m; decide +kernel
  rw [List.lookup_cons, g.1]; dsimp only
  rw [List.lookup_cons, g.2]; rfl
theorem cutD_take (xs : List PyData) (k : Nat) : cutD xs none (some (k : Int)) = xs.take k := by
  unfold cutD
  have h0 : HT.sIx xs.length 0 none = 0 := rfl
  have h1 : HT.sIx xs.length xs.length (some (k : Int)) = min k xs.length := by
    unfold HT.sIx
    simp
    omega
  rw [h0, h1, List.drop_zero, Nat.sub_zero]
  by_cases h : k ≤ xs.length
  · rw [Nat.min_eq_left h]
  · rw [Nat.min_eq_right (by omega), List.take_of_length_le (Nat.le_refl _), List.take_of_length_le (by omega)]
theorem atI_last {α : Type} (xs : List α) (x : α) : atI (xs ++ [x]) (-1) = some x := by
  rw [atI_neg1 (by simp), List.length_append, List.length_singleton, Nat.add_sub_cancel, List.getElem?_append_right (Nat.le_refl _), Nat.sub_self]; rfl
theorem pstD_snoc (hs : Hst) (h : List Int × List Str) : pstD (hs ++ [h]) = pstD hs ++ [stD h] := by
  show List.map stD (hs ++ [h]) = _
  rw [List.map_append]; rfl
theorem Sw.app {A M0 Mn : Ms} (hn : ad Mn = ad M0) (nd : (ad (A ++ M0)).Nodup) : Sw M0 Mn (A ++ M0) (A ++ Mn) := by
  have e : ∀ X : Ms, ad (A ++ X) = ad A ++ ad X := fun X => List.map_append ..
  refine ⟨List.sublist_append_right .., by rw [e, e, hn], fun x hx => ?_⟩
  rw [e] at nd
  rcases List.mem_append.mp hx with z | z
  · exact .inr ⟨List.mem_append_left _ z, fun z2 => (List.nodup_append.mp nd).2.2 x.1 (List.mem_map.mpr ⟨x, z, rfl⟩) x.1 z2 rfl⟩
  · exact .inl z
section
variable {K : PySem.W.Frag} {mg : Str → Option Value} {C p q : Addr} {n : Nat} {hs hs' : Hst} {ρ : List Sl} {A M1 : Ms} {ta tb tc td : TE} {E : XK} {xs : List Int} {ws : List Str}
theorem mem_sr0 : (p, MO.ins C (srF n q)) ∈ A ++ srM C n hs p q := List.mem_append_right _ List.mem_cons_self
theorem mem_sr1 : (q, MO.lst (pstD hs)) ∈ A ++ srM C n hs p q := List.mem_append_right _ (List.mem_cons_of_mem _ List.mem_cons_self)
theorem ev_srLen (Y : SearchC K mg C) (ha : Ev K ta ρ M1 (.loc (.ref p)) M1) (hp : (p, MO.ins C (srF n q)) ∈ M1) : Ev K (tFld K ta "length") ρ M1 (.dat (.int n)) M1 := ev_fld ha hp Y.cl Y.nL (sr_len n q)
theorem ev_srPast (Y : SearchC K mg C) (ha : Ev K ta ρ M1 (.loc (.ref p)) M1) (hp : (p, MO.ins C (srF n q)) ∈ M1) : Ev K (tFld K ta "past") ρ M1 (.loc (.ref q)) M1 := ev_fld ha hp Y.cl Y.nP (sr_past n q)
theorem ev_srLast (Y : SearchC K mg C) (ha : Ev K ta ρ (srM C n (hs ++ [(xs, ws)]) p q) (.loc (.ref p)) (srM C n (hs ++ [(xs, ws)]) p q)) (hb : Ev K tb ρ (srM C n (hs ++ [(xs, ws)]) p q) (.dat (.int (-1))) (srM C n (hs ++ [(xs, ws)]) p q)) :
    Ev K (tOp (rIxL K) (tFld K ta "past") tb) ρ (srM C n (hs ++ [(xs, ws)]) p q) (.dat (stD (xs, ws))) (srM C n (hs ++ [(xs, ws)]) p q) :=
  ev_ixM (ev_srPast Y ha List.mem_cons_self) hb (List.mem_cons_of_mem _ List.mem_cons_self) (by rw [pstD_snoc]; exact atI_last _ _)
/-- a method -/
theorem ev_srM {R : Ms → List Sl → PyData → Ms → Prop} {m : Str} {tr : TA} {ss : List Sl} {r : PyData} (hm : m ∈ (["waits", "stand", "answer", "back", "stands", "answers", "can_lie"] : List Str)) (ha : Ev K ta ρ (A ++ srM C n hs p q) (.loc (.ref p)) (A ++ srM C n hs p q))
    (hr : EvA K tr ρ (A ++ srM C n hs p q) ss (A ++ srM C n hs p q)) (hR : R (srM C n hs p q) (.loc (.ref p) :: ss) r (srM C n hs' p q)) :
    Ev K (tMeth C m (spMs K R) [] E ta tr) ρ (A ++ srM C n hs p q) (.dat r) (A ++ srM C n hs' p q) :=
  ev_methMs ha mem_sr0 (sr_no n q hm) hr (srM C n hs p q) (srM C n hs' p q) rfl (fun nd => Sw.app rfl nd) hR
end
def R_sInit (ds : List PyData) (fO : Addr → List (Str × Sl)) (qO : MO) : Prop := ∃ n : Nat, ds = [.int n] ∧ (1 ≤ n ∧ n ≤ 60) ∧ fO = srF n ∧ qO = .lst (pstD [([], [])])
abbrev s_Search___init__ : Stmt := inClass (topS 23) 0
theorem sc_Search___init__ : FnScope ["self", "length"] ["self", "length"] (defScope s_Search___init__) := ⟨rfl, rfl, rfl, by decide +kernel, rfl, by decide +kernel, by decide +kernel⟩
theorem ok_Search___init__ {C : Addr} (Y : SearchC K mg C) (T : RawI K C "Search.__init__" s_Search___init__) (B : Bl mg) (h_need_length : Has P w K mg base 2 "need_length" ["length"] (spP K R_need_length)) : HasI P w K mg base C 12 ["self", "length"] (spI K C R_sInit) := by
  have c_Search := Y.cl
  have g_Search := Y.g
  obtain ⟨f, fd, Fn, Mt⟩ := T
  obtain ⟨_, _, G_need_length, g_need_length, k_need_length, b_need_length⟩ := h_need_length
  refine ⟨f, fd, okI Fn sc_Search___init__ ?len (fun cdv A outer s H E hr => ⟨_, (pss_cons (ps_expr (pe_call G_need_length (hr.mono (by first | decide | omega)) (by rfl) g_need_length k_need_length b_need_length .nil pass0 (pa_cons (pv 1) pa_nil)))
      (pss_cons (ps_fld (pv 0) (pv 1) rfl)
      (pss_one (ps_fld (pv 0) (pe_lst (pa_cons (pe_tup (pa_cons (pe_lst pa_nil) (pa_cons (pe_lst pa_nil) pa_nil))) pa_nil)) rfl)))), ?_⟩), Mt, Fn.binds fun _ _ _ _ _ _ us hl => match us, hl with | [_, _], _ => rfl⟩
  case len =>
    rintro ds fO qO ⟨n, rfl, hn, rfl, rfl⟩; rfl
  rintro ds fO qO ⟨n, rfl, hn, rfl, rfl⟩ F L p σ H D hnx hp o
  try dsimp only [cxOf]
  replace o : Ok K F L σ H [.loc (.ref p), .dat (.int n)] [(p, .ins C [])] := o
  refine q_drop0 (ev_need_length (ev_varD rfl) (within_int (by omega))) (fun σ H o => ?_) o
  refine q_fld (j := 0) (ev_varD rfl) (ev_varL rfl) rfl Y.cl Y.nL (by decide) (fun H o => ?_) o
  refine s_fldNew (j := 0) (nw_list (ds := pstD [([], [])]) (evn_lst (ds := [.tuple [.list [], .list []]]) (EvA.cons (ev_tupD (ds := [.list [], .list []]) (ed_cons (EvN.ev (evn_lst (ds := []) EvA.nil)) (ed_cons (EvN.ev (evn_lst (ds := []) EvA.nil)) ed_nil)) (by simp)) EvA.nil))) (fun q => ev_varL rfl) rfl Y.cl Y.nP (by simp [putS]) (fun q H o => ?_) o
  have e : ([(p, MO.ins C (putS "length" (.dat (.int n)) []))] ++ [(q, MO.lst (pstD [([], [])]))]).set 0 (p, .ins C (putS "past" (.loc (.ref q)) (putS "length" (.dat (.int n)) []))) = srM C n [([], [])] p q := by
    show [(p, MO.ins C (putS sPast (.loc (.ref q)) [(sLen, .dat (.int n))])), (q, .lst (pstD [([], [])]))] = _
    rw [sr_put]
  replace o : Ok K F L σ H [.loc (.ref p), .dat (.int n)] (srM C n [([], [])] p q) := e ▸ o
  exact hnx q _ _ o
def R_waits (C : Addr) (M : Ms) (ss : List Sl) (r : PyData) (M' : Ms) : Prop := ∃ (p q : Addr) (n : Nat) (hs : Hst) (xs : List Int) (ws : List Str), M = srM C n (hs ++ [(xs, ws)]) p q ∧ M' = srM C n (hs ++ [(xs, ws)]) p q ∧ ss = [.loc (.ref p)] ∧ r = .bool (decide ((ws.length : Int) < xs.length - 1))
abbrev s_Search_waits : Stmt := inClass (topS 23) 1
theorem sc_Search_waits : FnScope ["self", "stands", "answers"] ["self"] (defScope s_Search_waits) := ⟨rfl, rfl, rfl, by decide +kernel, rfl, by decide +kernel, by decide +kernel⟩
theorem ok_Search_waits {C : Addr} (Y : SearchC K mg C) (T : RawM K C "waits" "Search.waits" s_Search_waits) (B : Bl mg) : HasM P w K mg base C 1 "waits" ["self"] (spMs K (R_waits C)) := by
  have c_Search := Y.cl
  have g_Search := Y.g
  obtain ⟨f, fd, Fn, Mt⟩ := T
  refine ⟨f, fd, okMs Fn sc_Search_waits ?len (fun cdv A outer s H E hr => ⟨_, (pss_cons (ps_asg (pe_ix (w_ixL (K' := K) rfl) (pe_fld (pv 0) rfl) (pe_un un_neg pe_int) (fun _ _ => rfl)) (pg_tup rfl (pgs_cons (pg_name (i := 1) sc_Search_waits.nd rfl (by first | exact .inl rfl | exact .inr rfl)) (pgs_cons (pg_name (i := 2) sc_Search_waits.nd rfl (by first | exact .inl rfl | exact .inr rfl)) pgs_nil))))
      (pss_one (ps_ret (pe_cmpR op_gt (pe_op op_sub (pe_callB (w_len (K' := K) rfl) (by rfl) B.len_ (by decide +kernel) (pa_cons (pv 1) pa_nil)) pe_int) (pe_callB (w_len (K' := K) rfl) (by rfl) B.len_ (by decide +kernel) (pa_cons (pv 2) pa_nil)) (nomark _))))), ?_⟩), Mt, Fn.binds fun _ _ _ _ _ _ us hl => match us, hl with | [_], _ => rfl⟩
  case len =>
    rintro M ss r M' ⟨p, q, n, hs, xs, ws, rfl, rfl, rfl, rfl⟩ <;> rfl
  rintro M ss r M' ⟨p, q, n, hs, xs, ws, rfl, rfl, rfl, rfl⟩ F L σ H D hrt hnx hL o
  try dsimp only [cxOf]
  replace o : Ok K F L σ H [.loc (.ref p), .un, .un] (srM C n (hs ++ [(xs, ws)]) p q) := o
  refine q_asg2 (d1 := dI xs) (d2 := dS ws) (ev_srLast Y (ev_varL rfl) (ev_neg ev_int)) (fun σ H o => ?_) o
  replace o : Ok K F L σ H [.loc (.ref p), .dat (dI xs), .dat (dS ws)] (srM C n (hs ++ [(xs, ws)]) p q) := o
  refine s_retMs (Mn := srM C n (hs ++ [(xs, ws)]) p q) (M1 := srM C n (hs ++ [(xs, ws)]) p q) (ev_isD (ev_gt (ev_sub (ev_lenL (EvA.cons (ev_varD rfl) EvA.nil)) ev_int) (ev_lenL (EvA.cons (ev_varD rfl) EvA.nil))) ?_) (fun x hx => hx) hrt o
  rw [List.length_map, List.length_map]
def R_stand (C : Addr) (M : Ms) (ss : List Sl) (r : PyData) (M' : Ms) : Prop := ∃ (p q : Addr) (n : Nat) (hs : Hst) (xs : List Int) (ws : List Str) (x : Int), M = srM C n (hs ++ [(xs, ws)]) p q ∧ M' = srM C n (hs ++ [(xs, ws)] ++ [(xs ++ [x], ws)]) p q ∧ ss = [.loc (.ref p), .dat (.int x)] ∧ (1 ≤ x ∧ x ≤ n) ∧ ¬ ((ws.length : Int) < xs.length - 1) ∧ hs.length < 1000 ∧ xs.length < 1000 ∧ r = .none
abbrev s_Search_stand : Stmt := inClass (topS 23) 2
theorem sc_Search_stand : FnScope ["self", "place", "stands", "answers"] ["self", "place"] (defScope s_Search_stand) := ⟨rfl, rfl, rfl, by decide +kernel, rfl, by decide +kernel, by decide +kernel⟩
theorem ok_Search_stand {C : Addr} (Y : SearchC K mg C) (T : RawM K C "stand" "Search.stand" s_Search_stand) (B : Bl mg) (h_need_place : Has P w K mg base 2 "need_place" ["length", "place"] (spP K R_need_place)) (h_Search_waits : HasM P w K mg base C 1 "waits" ["self"] (spMs K (R_waits C))) : HasM P w K mg base C 12 "stand" ["self", "place"] (spMs K (R_stand C)) := by
  have c_Search := Y.cl
  have g_Search := Y.g
  obtain ⟨f, fd, Fn, Mt⟩ := T
  obtain ⟨_, _, G_need_place, g_need_place, k_need_place, b_need_place⟩ := h_need_place
  obtain ⟨_, _, G_Search_waits, m_Search_waits, b_Search_waits⟩ := h_Search_waits
  refine ⟨f, fd, okMs Fn sc_Search_stand ?len (fun cdv A outer s H E hr => ⟨_, (pss_cons (ps_expr (pe_call G_need_place (hr.mono (by first | decide | omega)) (by rfl) g_need_place k_need_place b_need_place .nil pass0 (pa_cons (pe_fld (pv 0) rfl) (pa_cons (pv 1) pa_nil))))
      (pss_cons (ps_if (pt_val (pe_meth0 (pv 0) c_Search m_Search_waits G_Search_waits (hr.mono (by first | decide | omega)) b_Search_waits .nil pass0)) (pss_one ps_never) pss_nil)
      (pss_cons (ps_asg (pe_ix (w_ixL (K' := K) rfl) (pe_fld (pv 0) rfl) (pe_un un_neg pe_int) (fun _ _ => rfl)) (pg_tup rfl (pgs_cons (pg_name (i := 2) sc_Search_stand.nd rfl (by first | exact .inl rfl | exact .inr rfl)) (pgs_cons (pg_name (i := 3) sc_Search_stand.nd rfl (by first | exact .inl rfl | exact .inr rfl)) pgs_nil))))
      (pss_one (ps_expr (pe_bm PySem.F.plainAttrs_list PySem.F.slot_list_append PySem.F.type_list_append mt_append (pe_fld (pv 0) rfl) (pa_cons (pe_tup (pa_cons (pe_op o_cat (pv 2) (pe_lst (pa_cons (pv 1) pa_nil))) (pa_cons (pv 3) pa_nil))) pa_nil))))))), ?_⟩), Mt, Fn.binds fun _ _ _ _ _ _ us hl => match us, hl with | [_, _], _ => rfl⟩
  case len =>
    rintro M ss r M' ⟨p, q, n, hs, xs, ws, x, rfl, rfl, rfl, hx, hw, h1, h2, rfl⟩ <;> rfl
  rintro M ss r M' ⟨p, q, n, hs, xs, ws, x, rfl, rfl, rfl, hx, hw, h1, h2, rfl⟩ F L σ H D hrt hnx hL o
  try dsimp only [cxOf]
  replace o : Ok K F L σ H [.loc (.ref p), .dat (.int x), .un, .un] (srM C n (hs ++ [(xs, ws)]) p q) := o
  refine q_drop0 (ev_need_place (ev_srLen Y (ev_varL rfl) List.mem_cons_self) (ev_varD rfl) (within_int hx)) (fun σ H o => ?_) o
  refine q_ifF0 (et_is (et_test (ev_srM (A := []) (hs' := hs ++ [(xs, ws)]) (r := .bool (decide ((ws.length : Int) < xs.length - 1))) (by decide +kernel) (ev_varL rfl) EvA.nil ⟨p, q, n, hs, xs, ws, rfl, rfl, rfl, rfl⟩)) (by rw [decide_eq_false hw])) (fun H o => ?_) o
  refine q_asg2 (d1 := dI xs) (d2 := dS ws) (ev_srLast Y (ev_varL rfl) (ev_neg ev_int)) (fun σ H o => ?_) o
  replace o : Ok K F L σ H [.loc (.ref p), .dat (.int x), .dat (dI xs), .dat (dS ws)] (srM C n (hs ++ [(xs, ws)]) p q) := o
  refine s_app (j := 1) (d := stD (xs ++ [x], ws)) (M1 := srM C n (hs ++ [(xs, ws)]) p q) (ev_srPast Y (ev_varL rfl) List.mem_cons_self) (ev_tupD (ds := [dI (xs ++ [x]), dS ws]) (ed_cons (EvN.ev (evn_is (evn_cat (ev_varD rfl) (EvN.ev (evn_lst (ds := [.int x]) (EvA.cons (ev_varD rfl) EvA.nil))) (by rw [List.length_map, List.length_singleton]; omega)) (by rw [List.map_append]; rfl))) (ed_cons (ev_varD rfl) ed_nil)) (by simp)) rfl rfl (by simp; omega) (fun σ H o => ?_) o
  have e : pstD (hs ++ [(xs, ws)]) ++ [stD (xs ++ [x], ws)] = pstD (hs ++ [(xs, ws)] ++ [(xs ++ [x], ws)]) := (pstD_snoc _ _).symm
  rw [e] at o
  exact hnx _ _ o.fr (o.mobs fun x hx => hx) rfl
def R_sAnswer (C : Addr) (M : Ms) (ss : List Sl) (r : PyData) (M' : Ms) : Prop := ∃ (p q : Addr) (n : Nat) (hs : Hst) (xs : List Int) (ws : List Str) (wd : Str), M = srM C n (hs ++ [(xs, ws)]) p q ∧ M' = srM C n (hs ++ [(xs, ws)] ++ [(xs, ws ++ [wd])]) p q ∧ ss = [.loc (.ref p), .dat (.str wd)] ∧ wd ∈ wordsL ∧ (ws.length : Int) < xs.length - 1 ∧ hs.length < 1000 ∧ xs.length < 1000 ∧ n ≤ 1000 ∧ (∀ w ∈ ws, w ∈ wordsL) ∧ places n xs (ws ++ [wd]) ≠ [] ∧ r = .none
theorem eqv_nil_dTI {xs : List Int} (h : xs ≠ []) : PyData.eqv (dTI xs) (.tuple []) = false := by
  cases xs with
  | nil => exact (h rfl).elim
  | cons x xs => rfl
abbrev s_Search_answer : Stmt := inClass (topS 23) 3
theorem sc_Search_answer : FnScope ["self", "word", "stands", "answers"] ["self", "word"] (defScope s_Search_answer) := ⟨rfl, rfl, rfl, by decide +kernel, rfl, by decide +kernel, by decide +kernel⟩
theorem ok_Search_answer {C : Addr} (Y : SearchC K mg C) (T : RawM K C "answer" "Search.answer" s_Search_answer) (B : Bl mg) (h_is_answer : Has P w K mg base 1 "is_answer" ["thing"] (spP K R_is_answer)) (h_places_for : Has P w K mg base 4 "places_for" ["length", "stands", "answers"] (spP K R_places_for)) (h_Search_waits : HasM P w K mg base C 1 "waits" ["self"] (spMs K (R_waits C))) : HasM P w K mg base C 12 "answer" ["self", "word"] (spMs K (R_sAnswer C)) := by
  have c_Search := Y.cl
  have g_Search := Y.g
  obtain ⟨f, fd, Fn, Mt⟩ := T
  obtain ⟨_, _, G_is_answer, g_is_answer, k_is_answer, b_is_answer⟩ := h_is_answer
  obtain ⟨_, _, G_Search_waits, m_Search_waits, b_Search_waits⟩ := h_Search_waits
  obtain ⟨_, _, G_places_for, g_places_for, k_places_for, b_places_for⟩ := h_places_for
  refine ⟨f, fd, okMs Fn sc_Search_answer ?len (fun cdv A outer s H E hr => ⟨_, (pss_cons (ps_if (pt_not (pt_val (pe_call G_is_answer (hr.mono (by first | decide | omega)) (by rfl) g_is_answer k_is_answer b_is_answer .nil pass0 (pa_cons (pv 1) pa_nil)))) (pss_one ps_never) pss_nil)
      (pss_cons (ps_if (pt_not (pt_val (pe_meth0 (pv 0) c_Search m_Search_waits G_Search_waits (hr.mono (by first | decide | omega)) b_Search_waits .nil pass0))) (pss_one ps_never) pss_nil)
      (pss_cons (ps_asg (pe_ix (w_ixL (K' := K) rfl) (pe_fld (pv 0) rfl) (pe_un un_neg pe_int) (fun _ _ => rfl)) (pg_tup rfl (pgs_cons (pg_name (i := 2) sc_Search_answer.nd rfl (by first | exact .inl rfl | exact .inr rfl)) (pgs_cons (pg_name (i := 3) sc_Search_answer.nd rfl (by first | exact .inl rfl | exact .inr rfl)) pgs_nil))))
      (pss_cons (ps_if (pt_cmpR (w_eqD (K' := K) rfl hr.units) (pe_call G_places_for (hr.mono (by first | decide | omega)) (by rfl) g_places_for k_places_for b_places_for .nil pass0 (pa_cons (pe_fld (pv 0) rfl) (pa_cons (pv 2) (pa_cons (pe_op o_cat (pv 3) (pe_lst (pa_cons (pv 1) pa_nil))) pa_nil)))) (pe_tup pa_nil) (nomark _)) (pss_one ps_never) pss_nil)
      (pss_one (ps_expr (pe_bm PySem.F.plainAttrs_list PySem.F.slot_list_append PySem.F.type_list_append mt_append (pe_fld (pv 0) rfl) (pa_cons (pe_tup (pa_cons (pv 2) (pa_cons (pe_op o_cat (pv 3) (pe_lst (pa_cons (pv 1) pa_nil))) pa_nil))) pa_nil)))))))), ?_⟩), Mt, Fn.binds fun _ _ _ _ _ _ us hl => match us, hl with | [_, _], _ => rfl⟩
  case len =>
    rintro M ss r M' ⟨p, q, n, hs, xs, ws, wd, rfl, rfl, rfl, hwd, hw, h1, h2, hn, hall, hpl, rfl⟩ <;> rfl
  rintro M ss r M' ⟨p, q, n, hs, xs, ws, wd, rfl, rfl, rfl, hwd, hw, h1, h2, hn, hall, hpl, rfl⟩ F L σ H D hrt hnx hL o
  try dsimp only [cxOf]
  replace o : Ok K F L σ H [.loc (.ref p), .dat (.str wd), .un, .un] (srM C n (hs ++ [(xs, ws)]) p q) := o
  have hok : ∀ w ∈ ws ++ [wd], PyData.strOk w = true := fun w hw => by
    rcases List.mem_append.mp hw with z | z
    · exact wordsL_ok _ (hall w z)
    · rw [List.mem_singleton.mp z]; exact wordsL_ok _ hwd
  refine q_ifF0 (et_is (et_not (et_test (ev_is_answer (d := .str wd) (ev_varD rfl)))) (by simp [isWord, hwd])) (fun H o => ?_) o
  refine q_ifF0 (et_is (et_not (et_test (ev_srM (A := []) (hs' := hs ++ [(xs, ws)]) (r := .bool (decide ((ws.length : Int) < xs.length - 1))) (by decide +kernel) (ev_varL rfl) EvA.nil ⟨p, q, n, hs, xs, ws, rfl, rfl, rfl, rfl⟩))) (by rw [decide_eq_true hw]; rfl)) (fun H o => ?_) o
  refine q_asg2 (d1 := dI xs) (d2 := dS ws) (ev_srLast Y (ev_varL rfl) (ev_neg ev_int)) (fun σ H o => ?_) o
  replace o : Ok K F L σ H [.loc (.ref p), .dat (.str wd), .dat (dI xs), .dat (dS ws)] (srM C n (hs ++ [(xs, ws)]) p q) := o
  have hlen : ws.length < xs.length := by omega
  have hcat : ∀ {M : Ms}, Ev K (tOp rCatL (tVar 3) (tLst (tCons (tVar 1) tNil))) [.loc (.ref p), .dat (.str wd), .dat (dI xs), .dat (dS ws)] M (.dat (dS (ws ++ [wd]))) M := fun {M} => EvN.ev (evn_is (evn_cat (ev_varD rfl) (EvN.ev (evn_lst (ds := [.str wd]) (EvA.cons (ev_varD rfl) EvA.nil))) (by simp; omega)) (by rw [List.map_append]; rfl))
  refine q_ifF0 (et_is (et_test (ev_eqD (ev_places_for (n := n) (xs := xs) (ws := ws ++ [wd]) (ev_srLen Y (ev_varL rfl) List.mem_cons_self) (ev_varD rfl) hcat (by omega) (by omega) hok) (ev_tupD (ds := []) ed_nil (by simp)) (sh_dTI.shaped (by decide)) (by decide))) (eqv_nil_dTI hpl)) (fun H o => ?_) o
  refine s_app (j := 1) (d := stD (xs, ws ++ [wd])) (M1 := srM C n (hs ++ [(xs, ws)]) p q) (ev_srPast Y (ev_varL rfl) List.mem_cons_self) (ev_tupD (ds := [dI xs, dS (ws ++ [wd])]) (ed_cons (ev_varD rfl) (ed_cons hcat ed_nil)) (by simp)) rfl rfl (by simp; omega) (fun σ H o => ?_) o
  have e : pstD (hs ++ [(xs, ws)]) ++ [stD (xs, ws ++ [wd])] = pstD (hs ++ [(xs, ws)] ++ [(xs, ws ++ [wd])]) := (pstD_snoc _ _).symm
  rw [e] at o
  exact hnx _ _ o.fr (o.mobs fun x hx => hx) rfl
def R_sCan (C : Addr) (M : Ms) (ss : List Sl) (r : PyData) (M' : Ms) : Prop := ∃ (p q : Addr) (n : Nat) (hs : Hst) (xs : List Int) (ws : List Str), M = srM C n (hs ++ [(xs, ws)]) p q ∧ M' = srM C n (hs ++ [(xs, ws)]) p q ∧ ss = [.loc (.ref p)] ∧ n ≤ 1000 ∧ xs.length < 1000 ∧ (∀ w ∈ ws, w ∈ wordsL) ∧ r = dTI (places n (xs.take (ws.length + 1)) ws)
abbrev s_Search_can_lie : Stmt := inClass (topS 23) 7
theorem sc_Search_can_lie : FnScope ["self", "stands", "answers"] ["self"] (defScope s_Search_can_lie) := ⟨rfl, rfl, rfl, by decide +kernel, rfl, by decide +kernel, by decide +kernel⟩
theorem ok_Search_can_lie {C : Addr} (Y : SearchC K mg C) (T : RawM K C "can_lie" "Search.can_lie" s_Search_can_lie) (B : Bl mg) (h_places_for : Has P w K mg base 4 "places_for" ["length", "stands", "answers"] (spP K R_places_for)) : HasM P w K mg base C 12 "can_lie" ["self"] (spMs K (R_sCan C)) := by
  have c_Search := Y.cl
  have g_Search := Y.g
  obtain ⟨f, fd, Fn, Mt⟩ := T
  obtain ⟨_, _, G_places_for, g_places_for, k_places_for, b_places_for⟩ := h_places_for
  refine ⟨f, fd, okMs Fn sc_Search_can_lie ?len (fun cdv A outer s H E hr => ⟨_, (pss_cons (ps_asg (pe_ix (w_ixL (K' := K) rfl) (pe_fld (pv 0) rfl) (pe_un un_neg pe_int) (fun _ _ => rfl)) (pg_tup rfl (pgs_cons (pg_name (i := 1) sc_Search_can_lie.nd rfl (by first | exact .inl rfl | exact .inr rfl)) (pgs_cons (pg_name (i := 2) sc_Search_can_lie.nd rfl (by first | exact .inl rfl | exact .inr rfl)) pgs_nil))))
      (pss_one (ps_ret (pe_call G_places_for (hr.mono (by first | decide | omega)) (by rfl) g_places_for k_places_for b_places_for .nil pass0 (pa_cons (pe_fld (pv 0) rfl) (pa_cons (pe_slice (w_slL (K' := K) rfl) (pv 1) po_none (po_some (pe_op op_add (pe_callB (w_len (K' := K) rfl) (by rfl) B.len_ (by decide +kernel) (pa_cons (pv 2) pa_nil)) pe_int))) (pa_cons (pv 2) pa_nil))))))), ?_⟩), Mt, Fn.binds fun _ _ _ _ _ _ us hl => match us, hl with | [_], _ => rfl⟩
  case len =>
    rintro M ss r M' ⟨p, q, n, hs, xs, ws, rfl, rfl, rfl, hn, h2, hall, rfl⟩ <;> rfl
  rintro M ss r M' ⟨p, q, n, hs, xs, ws, rfl, rfl, rfl, hn, h2, hall, rfl⟩ F L σ H D hrt hnx hL o
  try dsimp only [cxOf]
  replace o : Ok K F L σ H [.loc (.ref p), .un, .un] (srM C n (hs ++ [(xs, ws)]) p q) := o
  refine q_asg2 (d1 := dI xs) (d2 := dS ws) (ev_srLast Y (ev_varL rfl) (ev_neg ev_int)) (fun σ H o => ?_) o
  replace o : Ok K F L σ H [.loc (.ref p), .dat (dI xs), .dat (dS ws)] (srM C n (hs ++ [(xs, ws)]) p q) := o
  refine s_retMs (Mn := srM C n (hs ++ [(xs, ws)]) p q) (M1 := srM C n (hs ++ [(xs, ws)]) p q) (ev_places_for (n := n) (xs := xs.take (ws.length + 1)) (ws := ws) (ev_srLen Y (ev_varL rfl) List.mem_cons_self) (EvN.ev (evn_is (evn_slL (ev_varD rfl) eo_no (eo_some (ev_add (ev_lenL (EvA.cons (ev_varD rfl) EvA.nil)) ev_int))) ?_)) (ev_varD rfl) (by omega) (by rw [List.length_take]; omega) (fun w hw => wordsL_ok _ (hall w hw))) (fun x hx => hx) hrt o
  rw [List.length_map, List.map_take]
  exact cutD_take _ _
def R_sLen (C : Addr) (M : Ms) (ss : List Sl) (r : PyData) (M' : Ms) : Prop := ∃ (p q : Addr) (n : Nat) (hs : Hst) (xs : List Int) (ws : List Str), M = srM C n (hs ++ [(xs, ws)]) p q ∧ M' = srM C n (hs ++ [(xs, ws)]) p q ∧ ss = [.loc (.ref p)] ∧ r = .int (xs.length : Nat)
abbrev s_Search___len__ : Stmt := inClass (topS 23) 8
theorem sc_Search___len__ : FnScope ["self"] ["self"] (defScope s_Search___len__) := ⟨rfl, rfl, rfl, by decide +kernel, rfl, by decide +kernel, by decide +kernel⟩
theorem ok_Search___len__ {C : Addr} (Y : SearchC K mg C) (T : RawM K C "__len__" "Search.__len__" s_Search___len__) (B : Bl mg) : HasM P w K mg base C 1 "__len__" ["self"] (spMs K (R_sLen C)) := by
  have c_Search := Y.cl
  have g_Search := Y.g
  obtain ⟨f, fd, Fn, Mt⟩ := T
  refine ⟨f, fd, okMs Fn sc_Search___len__ ?len (fun cdv A outer s H E hr => ⟨_, (pss_one (ps_ret (pe_callB (w_len (K' := K) rfl) (by rfl) B.len_ (by decide +kernel) (pa_cons (pe_ix (w_ixT (K' := K) rfl) (pe_ix (w_ixL (K' := K) rfl) (pe_fld (pv 0) rfl) (pe_un un_neg pe_int) (fun _ _ => rfl)) pe_int (fun _ _ => rfl)) pa_nil)))), ?_⟩), Mt, Fn.binds fun _ _ _ _ _ _ us hl => match us, hl with | [_], _ => rfl⟩
  case len =>
    rintro M ss r M' ⟨p, q, n, hs, xs, ws, rfl, rfl, rfl, rfl⟩ <;> rfl
  rintro M ss r M' ⟨p, q, n, hs, xs, ws, rfl, rfl, rfl, rfl⟩ F L σ H D hrt hnx hL o
  try dsimp only [cxOf]
  replace o : Ok K F L σ H [.loc (.ref p)] (srM C n (hs ++ [(xs, ws)]) p q) := o
  exact s_retMs (Mn := srM C n (hs ++ [(xs, ws)]) p q) (M1 := srM C n (hs ++ [(xs, ws)]) p q) (ev_isD (ev_lenL (EvA.cons (ev_ixT (ds := [dI xs, dS ws]) (ev_srLast Y (ev_varL rfl) (ev_neg ev_int)) ev_int rfl) EvA.nil)) (by rw [List.length_map])) (fun x hx => hx) hrt o
theorem srM_eq (C : Addr) (n : Nat) (hs : Hst) (p q : Addr) : srM C n hs p q = [(p, .ins C (srF n q)), (q, .lst (pstD hs))] := rfl
section
variable {K : PySem.W.Frag} {mg : Str → Option Value} {C p q : Addr} {n : Nat} {hs hs' : Hst} {ρ : List Sl} {A B M1 : Ms} {ta tb tc td : TE} {E : XK} {xs : List Int} {ws : List Str}
theorem mem_srB0 : (p, MO.ins C (srF n q)) ∈ A ++ srM C n hs p q ++ B := List.mem_append_left _ mem_sr0
/-- a method, the search's objects in the middle -/
theorem ev_srB {R : Ms → List Sl → PyData → Ms → Prop} {m : Str} {tr : TA} {ss : List Sl} {r : PyData} (hm : m ∈ (["waits", "stand", "answer", "back", "stands", "answers", "can_lie"] : List Str)) (ha : Ev K ta ρ (A ++ srM C n hs p q ++ B) (.loc (.ref p)) (A ++ srM C n hs p q ++ B))
    (hr : EvA K tr ρ (A ++ srM C n hs p q ++ B) ss (A ++ srM C n hs p q ++ B)) (hR : R (srM C n hs p q) (.loc (.ref p) :: ss) r (srM C n hs' p q)) :
    Ev K (tMeth C m (spMs K R) [] E ta tr) ρ (A ++ srM C n hs p q ++ B) (.dat r) (A ++ srM C n hs' p q ++ B) :=
  ev_methMs ha mem_srB0 (sr_no n q hm) hr (srM C n hs p q) (srM C n hs' p q) rfl (fun nd => Sw.mid rfl nd) hR
theorem subB : (srM C n hs p q).Sublist (A ++ srM C n hs p q ++ B) := (List.sublist_append_right A _).trans (List.sublist_append_left ..)
end
def R_sStandsN (C : Addr) (M : Ms) (ss : List Sl) (rs : List PyData) (M' : Ms) : Prop := ∃ (p q : Addr) (n : Nat) (hs : Hst) (xs : List Int) (ws : List Str), M = srM C n (hs ++ [(xs, ws)]) p q ∧ M' = srM C n (hs ++ [(xs, ws)]) p q ∧ ss = [.loc (.ref p)] ∧ rs = xs.map PyData.int
abbrev s_Search_stands : Stmt := inClass (topS 23) 5
theorem sc_Search_stands : FnScope ["self"] ["self"] (defScope s_Search_stands) := ⟨rfl, rfl, rfl, by decide +kernel, rfl, by decide +kernel, by decide +kernel⟩
theorem ok_Search_stands {C : Addr} (Y : SearchC K mg C) (T : RawM K C "stands" "Search.stands" s_Search_stands) (B : Bl mg) : HasM P w K mg base C 1 "stands" ["self"] (spMsN K (R_sStandsN C)) := by
  have c_Search := Y.cl
  have g_Search := Y.g
  obtain ⟨f, fd, Fn, Mt⟩ := T
  refine ⟨f, fd, okMsN Fn sc_Search_stands ?len (fun cdv A outer s H E hr => ⟨_, (pss_one (ps_ret (pe_callTy (w_list (K' := K) rfl) (by rfl) B.list_ (by decide +kernel) (pa_cons (pe_ix (w_ixT (K' := K) rfl) (pe_ix (w_ixL (K' := K) rfl) (pe_fld (pv 0) rfl) (pe_un un_neg pe_int) (fun _ _ => rfl)) pe_int (fun _ _ => rfl)) pa_nil)))), ?_⟩), Mt, Fn.binds fun _ _ _ _ _ _ us hl => match us, hl with | [_], _ => rfl⟩
  case len =>
    rintro M ss r M' ⟨p, q, n, hs, xs, ws, rfl, rfl, rfl, rfl⟩ <;> rfl
  rintro M ss rs M' ⟨p, q, n, hs, xs, ws, rfl, rfl, rfl, rfl⟩
  show EvN K _ [.loc (.ref p)] _ _ _
  exact evn_listL (EvA.cons (ev_ixT (ds := [dI xs, dS ws]) (ev_srLast Y (ev_varL rfl) (ev_neg ev_int)) ev_int rfl) EvA.nil)
def R_sAnswersN (C : Addr) (M : Ms) (ss : List Sl) (rs : List PyData) (M' : Ms) : Prop := ∃ (p q : Addr) (n : Nat) (hs : Hst) (xs : List Int) (ws : List Str), M = srM C n (hs ++ [(xs, ws)]) p q ∧ M' = srM C n (hs ++ [(xs, ws)]) p q ∧ ss = [.loc (.ref p)] ∧ rs = ws.map PyData.str
abbrev s_Search_answers : Stmt := inClass (topS 23) 6
theorem sc_Search_answers : FnScope ["self"] ["self"] (defScope s_Search_answers) := ⟨rfl, rfl, rfl, by decide +kernel, rfl, by decide +kernel, by decide +kernel⟩
theorem ok_Search_answers {C : Addr} (Y : SearchC K mg C) (T : RawM K C "answers" "Search.answers" s_Search_answers) (B : Bl mg) : HasM P w K mg base C 1 "answers" ["self"] (spMsN K (R_sAnswersN C)) := by
  have c_Search := Y.cl
  have g_Search := Y.g
  obtain ⟨f, fd, Fn, Mt⟩ := T
  refine ⟨f, fd, okMsN Fn sc_Search_answers ?len (fun cdv A outer s H E hr => ⟨_, (pss_one (ps_ret (pe_callTy (w_list (K' := K) rfl) (by rfl) B.list_ (by decide +kernel) (pa_cons (pe_ix (w_ixT (K' := K) rfl) (pe_ix (w_ixL (K' := K) rfl) (pe_fld (pv 0) rfl) (pe_un un_neg pe_int) (fun _ _ => rfl)) pe_int (fun _ _ => rfl)) pa_nil)))), ?_⟩), Mt, Fn.binds fun _ _ _ _ _ _ us hl => match us, hl with | [_], _ => rfl⟩
  case len =>
    rintro M ss r M' ⟨p, q, n, hs, xs, ws, rfl, rfl, rfl, rfl⟩ <;> rfl
  rintro M ss rs M' ⟨p, q, n, hs, xs, ws, rfl, rfl, rfl, rfl⟩
  show EvN K _ [.loc (.ref p)] _ _ _
  exact evn_listL (EvA.cons (ev_ixT (ds := [dI xs, dS ws]) (ev_srLast Y (ev_varL rfl) (ev_neg ev_int)) ev_int rfl) EvA.nil)
def R_sBack (C : Addr) (M : Ms) (ss : List Sl) (r : PyData) (M' : Ms) : Prop := ∃ (p q : Addr) (n : Nat) (hs : Hst) (h : List Int × List Str), hs ≠ [] ∧ M = srM C n (hs ++ [h]) p q ∧ M' = srM C n hs p q ∧ ss = [.loc (.ref p)] ∧ r = .none
abbrev s_Search_back : Stmt := inClass (topS 23) 4
theorem sc_Search_back : FnScope ["self"] ["self"] (defScope s_Search_back) := ⟨rfl, rfl, rfl, by decide +kernel, rfl, by decide +kernel, by decide +kernel⟩
theorem ok_Search_back {C : Addr} (Y : SearchC K mg C) (T : RawM K C "back" "Search.back" s_Search_back) (B : Bl mg) : HasM P w K mg base C 1 "back" ["self"] (spMs K (R_sBack C)) := by
  have c_Search := Y.cl
  have g_Search := Y.g
  obtain ⟨f, fd, Fn, Mt⟩ := T
  refine ⟨f, fd, okMs Fn sc_Search_back ?len (fun cdv A outer s H E hr => ⟨_, (pss_cons (ps_if (pt_cmpR op_eq (pe_callB (w_len (K' := K) rfl) (by rfl) B.len_ (by decide +kernel) (pa_cons (pe_fld (pv 0) rfl) pa_nil)) pe_int (nomark _)) (pss_one ps_never) pss_nil)
      (pss_one (ps_expr (pe_bm0 PySem.F.plainAttrs_list PySem.F.slot_list_pop PySem.F.type_list_pop mt_pop (pe_fld (pv 0) rfl))))), ?_⟩), Mt, Fn.binds fun _ _ _ _ _ _ us hl => match us, hl with | [_], _ => rfl⟩
  case len =>
    rintro M ss r M' ⟨p, q, n, hs, h, hne, rfl, rfl, rfl, rfl⟩ <;> rfl
  rintro M ss r M' ⟨p, q, n, hs, h, hne, rfl, rfl, rfl, rfl⟩ F L σ H D hrt hnx hL o
  try dsimp only [cxOf]
  replace o : Ok K F L σ H [.loc (.ref p)] (srM C n (hs ++ [h]) p q) := o
  have hl : 1 ≤ hs.length := List.length_pos_iff.mpr hne
  refine q_ifF0 (et_is (et_test (ev_eqI (ev_lenM (EvA.cons (ev_srPast Y (ev_varL rfl) List.mem_cons_self) EvA.nil) (List.mem_cons_of_mem _ List.mem_cons_self)) ev_int)) (decide_eq_false (by simp; omega))) (fun H o => ?_) o
  refine s_pop (j := 1) (ds := pstD hs) (d := stD h) (ev_srPast Y (ev_varL rfl) List.mem_cons_self) (by rw [← pstD_snoc]; rfl) (fun σ H o => ?_) o
  replace o : Ok K F L σ H [.loc (.ref p)] (srM C n hs p q) := o
  exact hnx _ _ o.fr (o.mobs fun x hx => hx) rfl
def R_sEq (C : Addr) (M : Ms) (ss : List Sl) (r : PyData) (M' : Ms) : Prop := ∃ (p q : Addr) (n : Nat) (hs : Hst) (xs : List Int) (ws : List Str), (∀ w ∈ ws, PyData.strOk w = true) ∧ M' = M ∧
  ((∃ (p' q' : Addr) (n' : Nat) (hs' : Hst) (xs' : List Int) (ws' : List Str), (∀ w ∈ ws', PyData.strOk w = true) ∧ M = srM C n (hs ++ [(xs, ws)]) p q ++ srM C n' (hs' ++ [(xs', ws')]) p' q' ∧ ss = [.loc (.ref p), .loc (.ref p')] ∧ r = .bool (decide (n = n') && (decide (xs = xs') && decide (ws = ws')))) ∨
   (∃ ds, M = srM C n (hs ++ [(xs, ws)]) p q ∧ ss = [.loc (.ref p), .dat (.list ds)] ∧ r = .bool false))
theorem sh_stD {xs : List Int} {ws : List Str} (h : ∀ w ∈ ws, PyData.strOk w = true) : Sh 2 (stD (xs, ws)) := sh_tuple fun d hd => by
  rcases List.mem_cons.mp hd with z | z
  · rw [z]; exact sh_dI
  · rw [List.mem_singleton.mp z]; exact sh_dS h
theorem eqv_stD (xs xs' : List Int) (ws ws' : List Str) : PyData.eqv (stD (xs, ws)) (stD (xs', ws')) = (decide (xs = xs') && decide (ws = ws')) := by
  have e : PyData.eqv (stD (xs, ws)) (stD (xs', ws')) = (PyData.eqv (dI xs) (dI xs') && (PyData.eqv (dS ws) (dS ws') && true)) := by simp only [stD, PyData.eqv, PyData.eqvAll]
  rw [e, eqv_dI, eqv_dS, Bool.and_true]
abbrev s_Search___eq__ : Stmt := inClass (topS 23) 9
theorem sc_Search___eq__ : FnScope ["self", "other"] ["self", "other"] (defScope s_Search___eq__) := ⟨rfl, rfl, rfl, by decide +kernel, rfl, by decide +kernel, by decide +kernel⟩
theorem ok_Search___eq__ {C : Addr} (Y : SearchC K mg C) (T : RawM K C "__eq__" "Search.__eq__" s_Search___eq__) (B : Bl mg) (I : IsC K C) : HasM P w K mg base C 2 "__eq__" ["self", "other"] (spMs K (R_sEq C)) := by
  have c_Search := Y.cl
  have g_Search := Y.g
  obtain ⟨f, fd, Fn, Mt⟩ := T
  refine ⟨f, fd, okMs Fn sc_Search___eq__ ?len (fun cdv A outer s H E hr => ⟨_, (pss_one (ps_ret (pe_and (pe_callB (w_isi (K' := K) rfl) (by rfl) B.isinstance_ (by decide +kernel) (pa_cons (pv 1) (pa_cons (pe_glob (by rfl) g_Search (show RelV (.ref C) _ from rfl)) pa_nil))) (pe_and (pe_cmpR op_eq (pe_fld (pv 0) rfl) (pe_fld (pv 1) rfl) (nomark _)) (pe_one (pe_cmpR (w_eqD (K' := K) rfl hr.units) (pe_ix (w_ixL (K' := K) rfl) (pe_fld (pv 0) rfl) (pe_un un_neg pe_int) (fun _ _ => rfl)) (pe_ix (w_ixL (K' := K) rfl) (pe_fld (pv 1) rfl) (pe_un un_neg pe_int) (fun _ _ => rfl)) (nomark _))))))), ?_⟩), Mt, Fn.binds fun _ _ _ _ _ _ us hl => match us, hl with | [_, _], _ => rfl⟩
  case len =>
    rintro M ss r M' ⟨p, q, n, hs, xs, ws, hw, rfl, ⟨p', q', n', hs', xs', ws', hw', rfl, rfl, rfl⟩ | ⟨ds, rfl, rfl, rfl⟩⟩ <;> rfl
  rintro M ss r M' ⟨p, q, n, hs, xs, ws, hw, rfl, ⟨p', q', n', hs', xs', ws', hw', rfl, rfl, rfl⟩ | ⟨ds, rfl, rfl, rfl⟩⟩ F L σ H D hrt hnx hL o
  · try dsimp only [cxOf]
    replace o : Ok K F L σ H [.loc (.ref p), .loc (.ref p')] (srM C n (hs ++ [(xs, ws)]) p q ++ srM C n' (hs' ++ [(xs', ws')]) p' q') := o
    have m1 : (p, MO.ins C (srF n q)) ∈ srM C n (hs ++ [(xs, ws)]) p q ++ srM C n' (hs' ++ [(xs', ws')]) p' q' := by simp
    have m2 : (q, MO.lst (pstD (hs ++ [(xs, ws)]))) ∈ srM C n (hs ++ [(xs, ws)]) p q ++ srM C n' (hs' ++ [(xs', ws')]) p' q' := by simp
    have m3 : (p', MO.ins C (srF n' q')) ∈ srM C n (hs ++ [(xs, ws)]) p q ++ srM C n' (hs' ++ [(xs', ws')]) p' q' := by simp
    have m4 : (q', MO.lst (pstD (hs' ++ [(xs', ws')]))) ∈ srM C n (hs ++ [(xs, ws)]) p q ++ srM C n' (hs' ++ [(xs', ws')]) p' q' := by simp
    refine s_retMs (ev_isD (ev_andV2 (ev_isiC I (ev_varL rfl) m3 I.ks) (ev_andV2 (ev_eqI (ev_srLen Y (ev_varL rfl) m1) (ev_srLen Y (ev_varL rfl) m3)) (ev_eqD (d1 := stD (xs, ws)) (d2 := stD (xs', ws')) (ev_ixM (ev_srPast Y (ev_varL rfl) m1) (ev_neg ev_int) m2 (by rw [pstD_snoc]; exact atI_last _ _)) (ev_ixM (ev_srPast Y (ev_varL rfl) m3) (ev_neg ev_int) m4 (by rw [pstD_snoc]; exact atI_last _ _)) ((sh_stD hw).shaped (by decide)) ((sh_stD hw').shaped (by decide))))) ?_) (fun x hx => hx) hrt o
    rw [eqv_stD, show decide ((n : Int) = n') = decide (n = n') from decide_eq_decide.mpr ⟨fun h => by omega, fun h => by omega⟩, Bool.true_and]
  · try dsimp only [cxOf]
    replace o : Ok K F L σ H [.loc (.ref p), .dat (.list ds)] (srM C n (hs ++ [(xs, ws)]) p q) := o
    exact s_retMs (ev_isD (ev_andV (b := false) (ev_isiLC (ev_varD rfl) I.kl) fun e => by cases e) rfl) (fun x hx => hx) hrt o
/-! refusals -/
inductive Er where
  | place | now | ans | never | left
def Er.nm : Er → Str
  | .place => "NoPlace" | .now => "NotNow" | .ans => "NoAnswer" | .never => "Never" | .left => "NothingLeft"
/-- the classes, by their refusals -/
abbrev CE := Er → Addr
abbrev ErrsC (K : PySem.W.Frag) (mg : Str → Option Value) (ce : CE) : Prop := ∀ x : Er, ErrC K mg x.nm (ce x)
def X_need_place (ce : CE) (M : Ms) (ss : List Sl) (C : Addr) : Prop := ∃ (n : Int) (d : PyData), M = [] ∧ ss = [.dat (.int n), .dat d] ∧ within d 1 n = false ∧ C = ce .place
theorem okX_need_place_A {f : Addr} {fd : FuncData} (Fn : Fun K "need_place" "need_place" s_need_place f fd) (B : Bl mg) {ce : CE} (YE : ErrsC K mg ce) (h_is_within : Has P w K mg base 1 "is_within" ["thing", "low", "high"] (spP K R_is_within)) : FnOk P w K mg base (L2N.CX P w) 12 f fd ["length", "place"] (spE K (X_need_place ce)) := by
  obtain ⟨_, _, G_is_within, g_is_within, k_is_within, b_is_within⟩ := h_is_within
  refine okE Fn sc_need_place ?len (fun cdv A outer s H E hr => ⟨_, (pss_one (ps_if (pt_not (pt_val (pe_call G_is_within (hr.mono (by first | decide | omega)) (by rfl) g_is_within k_is_within b_is_within .nil pass0 (pa_cons (pv 1) (pa_cons pe_int (pa_cons (pv 0) pa_nil)))))) (pss_one (ps_raiseX (x := "NoPlace") (YE .place) rfl)) pss_nil)), ?_⟩)
  case len =>
    rintro M ss C' ⟨n, d, rfl, rfl, hw, rfl⟩ <;> rfl
  rintro M ss C' ⟨n, d, rfl, rfl, hw, rfl⟩ F L σ H D hE hL o
  try dsimp only [cxOf]
  replace o : Ok K F L σ H [.dat (.int n), .dat d] [] := o
  exact s_ifT0 (et_is (et_not (et_test (ev_is_within (ev_varD rfl) ev_int (ev_varD rfl)))) (by rw [hw]; rfl)) (fun H o => hE _ o.fr (o.mobs fun x hx => hx)) o

theorem okX_need_place (B : Bl mg) {ce : CE} (YE : ErrsC K mg ce) (T : Raw K mg "need_place" "need_place" s_need_place) (h_is_within : Has P w K mg base 1 "is_within" ["thing", "low", "high"] (spP K R_is_within)) : HasX P w K mg base 12 "need_place" ["length", "place"] (spE K (X_need_place ce)) := by
  obtain ⟨f, fd, Fn, hg⟩ := T
  exact ⟨f, fd, ((okX_need_place_A Fn B YE h_is_within).mono (by decide)), hg, Fn.kp, Fn.binds fun _ _ _ _ _ _ us hl => match us, hl with | [_, _], _ => rfl⟩
def X_standA (ce : CE) (C : Addr) (M : Ms) (ss : List Sl) (D : Addr) : Prop := ∃ (p q : Addr) (n : Nat) (hs : Hst) (xs : List Int) (ws : List Str) (d : PyData), M = srM C n (hs ++ [(xs, ws)]) p q ∧ ss = [.loc (.ref p), .dat d] ∧ within d 1 n = false ∧ D = ce .place
theorem okX_Search_stand_A {f : Addr} {fd : FuncData} (Fn : Fun K "stand" "Search.stand" s_Search_stand f fd) (B : Bl mg) {ce : CE} (YE : ErrsC K mg ce) {C_Search : Addr} (Y_Search : SearchC K mg C_Search) (hX_need_place : HasX P w K mg base 12 "need_place" ["length", "place"] (spE K (X_need_place ce))) : FnOk P w K mg base (L2N.CX P w) 13 f fd ["self", "place"] (spE K (X_standA ce C_Search)) := by
  have c_Search := Y_Search.cl
  have g_Search := Y_Search.g
  obtain ⟨_, _, GX_need_place, gX_need_place, kX_need_place, bX_need_place⟩ := hX_need_place
  refine okE Fn sc_Search_stand ?len (fun cdv A outer s H E hr => ⟨_, (pss_cons (ps_expr (pe_call GX_need_place (hr.mono (by first | decide | omega)) (by rfl) gX_need_place kX_need_place bX_need_place .nil passE (pa_cons (pe_fld (pv 0) rfl) (pa_cons (pv 1) pa_nil))))
      pss_never), ?_⟩)
  case len =>
    rintro M ss C' ⟨p, q, n, hs, xs, ws, d, rfl, rfl, hw, rfl⟩ <;> rfl
  rintro M ss C' ⟨p, q, n, hs, xs, ws, d, rfl, rfl, hw, rfl⟩ F L σ H D hE hL o
  try dsimp only [cxOf]
  replace o : Ok K F L σ H [.loc (.ref p), .dat d, .un, .un] (srM C_Search n (hs ++ [(xs, ws)]) p q) := o
  exact xq_drop (fun Q => x_call (EvA.cons (ev_srLen Y_Search (ev_varL rfl) List.mem_cons_self) (EvA.cons (ev_varD rfl) EvA.nil)) [] (List.nil_sublist _) ⟨n, d, rfl, rfl, hw, rfl⟩ (fun H1 o1 => hE _ o1.fr (o1.mobs fun x hx => hx)) o)
def X_standB (ce : CE) (C : Addr) (M : Ms) (ss : List Sl) (D : Addr) : Prop := ∃ (p q : Addr) (n : Nat) (hs : Hst) (xs : List Int) (ws : List Str) (d : PyData), M = srM C n (hs ++ [(xs, ws)]) p q ∧ ss = [.loc (.ref p), .dat d] ∧ within d 1 n = true ∧ (ws.length : Int) < xs.length - 1 ∧ D = ce .now
def X_stand (ce : CE) (C : Addr) (M : Ms) (ss : List Sl) (D : Addr) : Prop := X_standA ce C M ss D ∨ X_standB ce C M ss D
theorem okX_Search_stand_B {f : Addr} {fd : FuncData} (Fn : Fun K "stand" "Search.stand" s_Search_stand f fd) (B : Bl mg) {ce : CE} (YE : ErrsC K mg ce) {C_Search : Addr} (Y_Search : SearchC K mg C_Search) (h_need_place : Has P w K mg base 2 "need_place" ["length", "place"] (spP K R_need_place)) (h_Search_waits : HasM P w K mg base C_Search 1 "waits" ["self"] (spMs K (R_waits C_Search))) : FnOk P w K mg base (L2N.CX P w) 13 f fd ["self", "place"] (spE K (X_standB ce C_Search)) := by
  have c_Search := Y_Search.cl
  have g_Search := Y_Search.g
  obtain ⟨_, _, G_need_place, g_need_place, k_need_place, b_need_place⟩ := h_need_place
  obtain ⟨_, _, G_Search_waits, m_Search_waits, b_Search_waits⟩ := h_Search_waits
  refine okE Fn sc_Search_stand ?len (fun cdv A outer s H E hr => ⟨_, (pss_cons (ps_expr (pe_call G_need_place (hr.mono (by first | decide | omega)) (by rfl) g_need_place k_need_place b_need_place .nil pass0 (pa_cons (pe_fld (pv 0) rfl) (pa_cons (pv 1) pa_nil))))
      (pss_cons (ps_if (pt_val (pe_meth0 (pv 0) c_Search m_Search_waits G_Search_waits (hr.mono (by first | decide | omega)) b_Search_waits .nil pass0)) (pss_one (ps_raiseX (x := "NotNow") (YE .now) rfl)) pss_nil)
      pss_never)), ?_⟩)
  case len =>
    rintro M ss C' ⟨p, q, n, hs, xs, ws, d, rfl, rfl, hw, hws, rfl⟩ <;> rfl
  rintro M ss C' ⟨p, q, n, hs, xs, ws, d, rfl, rfl, hw, hws, rfl⟩ F L σ H D hE hL o
  try dsimp only [cxOf]
  replace o : Ok K F L σ H [.loc (.ref p), .dat d, .un, .un] (srM C_Search n (hs ++ [(xs, ws)]) p q) := o
  refine q_drop0 (ev_need_place (ev_srLen Y_Search (ev_varL rfl) List.mem_cons_self) (ev_varD rfl) hw) (fun σ H o => ?_) o
  exact xq_ifT (et_is (et_test (ev_srM (A := []) (hs' := hs ++ [(xs, ws)]) (r := .bool (decide ((ws.length : Int) < xs.length - 1))) (by decide +kernel) (ev_varL rfl) EvA.nil ⟨p, q, n, hs, xs, ws, rfl, rfl, rfl, rfl⟩)) (by rw [decide_eq_true hws])) (fun H D o => hE _ o.fr (o.mobs fun x hx => hx)) o

theorem okX_Search_stand {C_Search : Addr} (T : RawM K C_Search "stand" "Search.stand" s_Search_stand) (B : Bl mg) {ce : CE} (YE : ErrsC K mg ce) (Y_Search : SearchC K mg C_Search) (hX_need_place : HasX P w K mg base 12 "need_place" ["length", "place"] (spE K (X_need_place ce))) (h_need_place : Has P w K mg base 2 "need_place" ["length", "place"] (spP K R_need_place)) (h_Search_waits : HasM P w K mg base C_Search 1 "waits" ["self"] (spMs K (R_waits C_Search))) : HasMX P w K mg base C_Search 13 "stand" ["self", "place"] (spE K (X_stand ce C_Search)) := by
  obtain ⟨f, fd, Fn, Mt⟩ := T
  exact ⟨f, fd, (fnOk_xor ((okX_Search_stand_A Fn B YE Y_Search hX_need_place).mono (by decide)) ((okX_Search_stand_B Fn B YE Y_Search h_need_place h_Search_waits).mono (by decide))), Mt, Fn.binds fun _ _ _ _ _ _ us hl => match us, hl with | [_, _], _ => rfl⟩
def X_answerA (ce : CE) (C : Addr) (M : Ms) (ss : List Sl) (D : Addr) : Prop := ∃ (p q : Addr) (n : Nat) (hs : Hst) (xs : List Int) (ws : List Str) (d : PyData), M = srM C n (hs ++ [(xs, ws)]) p q ∧ ss = [.loc (.ref p), .dat d] ∧ isWord d = false ∧ D = ce .ans
theorem okX_Search_answer_A {f : Addr} {fd : FuncData} (Fn : Fun K "answer" "Search.answer" s_Search_answer f fd) (B : Bl mg) {ce : CE} (YE : ErrsC K mg ce) {C_Search : Addr} (Y_Search : SearchC K mg C_Search) (h_is_answer : Has P w K mg base 1 "is_answer" ["thing"] (spP K R_is_answer)) : FnOk P w K mg base (L2N.CX P w) 13 f fd ["self", "word"] (spE K (X_answerA ce C_Search)) := by
  have c_Search := Y_Search.cl
  have g_Search := Y_Search.g
  obtain ⟨_, _, G_is_answer, g_is_answer, k_is_answer, b_is_answer⟩ := h_is_answer
  refine okE Fn sc_Search_answer ?len (fun cdv A outer s H E hr => ⟨_, (pss_cons (ps_if (pt_not (pt_val (pe_call G_is_answer (hr.mono (by first | decide | omega)) (by rfl) g_is_answer k_is_answer b_is_answer .nil pass0 (pa_cons (pv 1) pa_nil)))) (pss_one (ps_raiseX (x := "NoAnswer") (YE .ans) rfl)) pss_nil)
      pss_never), ?_⟩)
  case len =>
    rintro M ss C' ⟨p, q, n, hs, xs, ws, d, rfl, rfl, hw, rfl⟩ <;> rfl
  rintro M ss C' ⟨p, q, n, hs, xs, ws, d, rfl, rfl, hw, rfl⟩ F L σ H D hE hL o
  try dsimp only [cxOf]
  replace o : Ok K F L σ H [.loc (.ref p), .dat d, .un, .un] (srM C_Search n (hs ++ [(xs, ws)]) p q) := o
  exact xq_ifT (et_is (et_not (et_test (ev_is_answer (ev_varD rfl)))) (by rw [hw]; rfl)) (fun H D o => hE _ o.fr (o.mobs fun x hx => hx)) o
def X_answerB (ce : CE) (C : Addr) (M : Ms) (ss : List Sl) (D : Addr) : Prop := ∃ (p q : Addr) (n : Nat) (hs : Hst) (xs : List Int) (ws : List Str) (d : PyData), M = srM C n (hs ++ [(xs, ws)]) p q ∧ ss = [.loc (.ref p), .dat d] ∧ isWord d = true ∧ ¬ ((ws.length : Int) < xs.length - 1) ∧ D = ce .now
theorem okX_Search_answer_B {f : Addr} {fd : FuncData} (Fn : Fun K "answer" "Search.answer" s_Search_answer f fd) (B : Bl mg) {ce : CE} (YE : ErrsC K mg ce) {C_Search : Addr} (Y_Search : SearchC K mg C_Search) (h_is_answer : Has P w K mg base 1 "is_answer" ["thing"] (spP K R_is_answer)) (h_Search_waits : HasM P w K mg base C_Search 1 "waits" ["self"] (spMs K (R_waits C_Search))) : FnOk P w K mg base (L2N.CX P w) 13 f fd ["self", "word"] (spE K (X_answerB ce C_Search)) := by
  have c_Search := Y_Search.cl
  have g_Search := Y_Search.g
  obtain ⟨_, _, G_is_answer, g_is_answer, k_is_answer, b_is_answer⟩ := h_is_answer
  obtain ⟨_, _, G_Search_waits, m_Search_waits, b_Search_waits⟩ := h_Search_waits
  refine okE Fn sc_Search_answer ?len (fun cdv A outer s H E hr => ⟨_, (pss_cons (ps_if (pt_not (pt_val (pe_call G_is_answer (hr.mono (by first | decide | omega)) (by rfl) g_is_answer k_is_answer b_is_answer .nil pass0 (pa_cons (pv 1) pa_nil)))) (pss_one ps_never) pss_nil)
      (pss_cons (ps_if (pt_not (pt_val (pe_meth0 (pv 0) c_Search m_Search_waits G_Search_waits (hr.mono (by first | decide | omega)) b_Search_waits .nil pass0))) (pss_one (ps_raiseX (x := "NotNow") (YE .now) rfl)) pss_nil)
      pss_never)), ?_⟩)
  case len =>
    rintro M ss C' ⟨p, q, n, hs, xs, ws, d, rfl, rfl, hw, hws, rfl⟩ <;> rfl
  rintro M ss C' ⟨p, q, n, hs, xs, ws, d, rfl, rfl, hw, hws, rfl⟩ F L σ H D hE hL o
  try dsimp only [cxOf]
  replace o : Ok K F L σ H [.loc (.ref p), .dat d, .un, .un] (srM C_Search n (hs ++ [(xs, ws)]) p q) := o
  refine q_ifF0 (et_is (et_not (et_test (ev_is_answer (ev_varD rfl)))) (by rw [hw]; rfl)) (fun H o => ?_) o
  exact xq_ifT (et_is (et_not (et_test (ev_srM (A := []) (hs' := hs ++ [(xs, ws)]) (r := .bool (decide ((ws.length : Int) < xs.length - 1))) (by decide +kernel) (ev_varL rfl) EvA.nil ⟨p, q, n, hs, xs, ws, rfl, rfl, rfl, rfl⟩))) (by rw [decide_eq_false hws]; rfl)) (fun H D o => hE _ o.fr (o.mobs fun x hx => hx)) o
def X_answerC (ce : CE) (C : Addr) (M : Ms) (ss : List Sl) (D : Addr) : Prop := ∃ (p q : Addr) (n : Nat) (hs : Hst) (xs : List Int) (ws : List Str) (wd : Str), M = srM C n (hs ++ [(xs, ws)]) p q ∧ ss = [.loc (.ref p), .dat (.str wd)] ∧ wd ∈ wordsL ∧ (ws.length : Int) < xs.length - 1 ∧ xs.length < 1000 ∧ n ≤ 1000 ∧ (∀ w ∈ ws, w ∈ wordsL) ∧ places n xs (ws ++ [wd]) = [] ∧ D = ce .never
def X_answer (ce : CE) (C : Addr) (M : Ms) (ss : List Sl) (D : Addr) : Prop := X_answerA ce C M ss D ∨ X_answerB ce C M ss D ∨ X_answerC ce C M ss D
theorem okX_Search_answer_C {f : Addr} {fd : FuncData} (Fn : Fun K "answer" "Search.answer" s_Search_answer f fd) (B : Bl mg) {ce : CE} (YE : ErrsC K mg ce) {C_Search : Addr} (Y_Search : SearchC K mg C_Search) (h_is_answer : Has P w K mg base 1 "is_answer" ["thing"] (spP K R_is_answer)) (h_Search_waits : HasM P w K mg base C_Search 1 "waits" ["self"] (spMs K (R_waits C_Search))) (h_places_for : Has P w K mg base 4 "places_for" ["length", "stands", "answers"] (spP K R_places_for)) : FnOk P w K mg base (L2N.CX P w) 13 f fd ["self", "word"] (spE K (X_answerC ce C_Search)) := by
  have c_Search := Y_Search.cl
  have g_Search := Y_Search.g
  obtain ⟨_, _, G_is_answer, g_is_answer, k_is_answer, b_is_answer⟩ := h_is_answer
  obtain ⟨_, _, G_Search_waits, m_Search_waits, b_Search_waits⟩ := h_Search_waits
  obtain ⟨_, _, G_places_for, g_places_for, k_places_for, b_places_for⟩ := h_places_for
  refine okE Fn sc_Search_answer ?len (fun cdv A outer s H E hr => ⟨_, (pss_cons (ps_if (pt_not (pt_val (pe_call G_is_answer (hr.mono (by first | decide | omega)) (by rfl) g_is_answer k_is_answer b_is_answer .nil pass0 (pa_cons (pv 1) pa_nil)))) (pss_one ps_never) pss_nil)
      (pss_cons (ps_if (pt_not (pt_val (pe_meth0 (pv 0) c_Search m_Search_waits G_Search_waits (hr.mono (by first | decide | omega)) b_Search_waits .nil pass0))) (pss_one ps_never) pss_nil)
      (pss_cons (ps_asg (pe_ix (w_ixL (K' := K) rfl) (pe_fld (pv 0) rfl) (pe_un un_neg pe_int) (fun _ _ => rfl)) (pg_tup rfl (pgs_cons (pg_name (i := 2) sc_Search_answer.nd rfl (by first | exact .inl rfl | exact .inr rfl)) (pgs_cons (pg_name (i := 3) sc_Search_answer.nd rfl (by first | exact .inl rfl | exact .inr rfl)) pgs_nil))))
      (pss_cons (ps_if (pt_cmpR (w_eqD (K' := K) rfl hr.units) (pe_call G_places_for (hr.mono (by first | decide | omega)) (by rfl) g_places_for k_places_for b_places_for .nil pass0 (pa_cons (pe_fld (pv 0) rfl) (pa_cons (pv 2) (pa_cons (pe_op o_cat (pv 3) (pe_lst (pa_cons (pv 1) pa_nil))) pa_nil)))) (pe_tup pa_nil) (nomark _)) (pss_one (ps_raiseX (x := "Never") (YE .never) rfl)) pss_nil)
      pss_never)))), ?_⟩)
  case len =>
    rintro M ss C' ⟨p, q, n, hs, xs, ws, wd, rfl, rfl, hwd, hw, h2, hn, hall, hpl, rfl⟩ <;> rfl
  rintro M ss C' ⟨p, q, n, hs, xs, ws, wd, rfl, rfl, hwd, hw, h2, hn, hall, hpl, rfl⟩ F L σ H D hE hL o
  try dsimp only [cxOf]
  replace o : Ok K F L σ H [.loc (.ref p), .dat (.str wd), .un, .un] (srM C_Search n (hs ++ [(xs, ws)]) p q) := o
  have hok : ∀ w ∈ ws ++ [wd], PyData.strOk w = true := fun w hw => by
    rcases List.mem_append.mp hw with z | z
    · exact wordsL_ok _ (hall w z)
    · rw [List.mem_singleton.mp z]; exact wordsL_ok _ hwd
  refine q_ifF0 (et_is (et_not (et_test (ev_is_answer (d := .str wd) (ev_varD rfl)))) (by simp [isWord, hwd])) (fun H o => ?_) o
  refine q_ifF0 (et_is (et_not (et_test (ev_srM (A := []) (hs' := hs ++ [(xs, ws)]) (r := .bool (decide ((ws.length : Int) < xs.length - 1))) (by decide +kernel) (ev_varL rfl) EvA.nil ⟨p, q, n, hs, xs, ws, rfl, rfl, rfl, rfl⟩))) (by rw [decide_eq_true hw]; rfl)) (fun H o => ?_) o
  refine q_asg2 (d1 := dI xs) (d2 := dS ws) (ev_srLast Y_Search (ev_varL rfl) (ev_neg ev_int)) (fun σ H o => ?_) o
  replace o : Ok K F L σ H [.loc (.ref p), .dat (.str wd), .dat (dI xs), .dat (dS ws)] (srM C_Search n (hs ++ [(xs, ws)]) p q) := o
  have hcat : ∀ {M : Ms}, Ev K (tOp rCatL (tVar 3) (tLst (tCons (tVar 1) tNil))) [.loc (.ref p), .dat (.str wd), .dat (dI xs), .dat (dS ws)] M (.dat (dS (ws ++ [wd]))) M := fun {M} => EvN.ev (evn_is (evn_cat (ev_varD rfl) (EvN.ev (evn_lst (ds := [.str wd]) (EvA.cons (ev_varD rfl) EvA.nil))) (by simp; omega)) (by rw [List.map_append]; rfl))
  refine xq_ifT (et_is (et_test (ev_eqD (ev_places_for (n := n) (xs := xs) (ws := ws ++ [wd]) (ev_srLen Y_Search (ev_varL rfl) List.mem_cons_self) (ev_varD rfl) hcat (by omega) (by omega) hok) (ev_tupD (ds := []) ed_nil (by simp)) (sh_dTI.shaped (by decide)) (by decide))) ?_) (fun H D o => hE _ o.fr (o.mobs fun x hx => hx)) o
  rw [hpl]; rfl

theorem okX_Search_answer {C_Search : Addr} (T : RawM K C_Search "answer" "Search.answer" s_Search_answer) (B : Bl mg) {ce : CE} (YE : ErrsC K mg ce) (Y_Search : SearchC K mg C_Search) (h_is_answer : Has P w K mg base 1 "is_answer" ["thing"] (spP K R_is_answer)) (h_Search_waits : HasM P w K mg base C_Search 1 "waits" ["self"] (spMs K (R_waits C_Search))) (h_places_for : Has P w K mg base 4 "places_for" ["length", "stands", "answers"] (spP K R_places_for)) : HasMX P w K mg base C_Search 13 "answer" ["self", "word"] (spE K (X_answer ce C_Search)) := by
  obtain ⟨f, fd, Fn, Mt⟩ := T
  exact ⟨f, fd, (fnOk_xor ((okX_Search_answer_A Fn B YE Y_Search h_is_answer).mono (by decide)) (fnOk_xor ((okX_Search_answer_B Fn B YE Y_Search h_is_answer h_Search_waits).mono (by decide)) ((okX_Search_answer_C Fn B YE Y_Search h_is_answer h_Search_waits h_places_for).mono (by decide)))), Mt, Fn.binds fun _ _ _ _ _ _ us hl => match us, hl with | [_, _], _ => rfl⟩
def X_back (ce : CE) (C : Addr) (M : Ms) (ss : List Sl) (D : Addr) : Prop := ∃ (p q : Addr) (n : Nat) (h : List Int × List Str), M = srM C n [h] p q ∧ ss = [.loc (.ref p)] ∧ D = ce .left
theorem okX_Search_back_A {f : Addr} {fd : FuncData} (Fn : Fun K "back" "Search.back" s_Search_back f fd) (B : Bl mg) {ce : CE} (YE : ErrsC K mg ce) {C_Search : Addr} (Y_Search : SearchC K mg C_Search) : FnOk P w K mg base (L2N.CX P w) 13 f fd ["self"] (spE K (X_back ce C_Search)) := by
  have c_Search := Y_Search.cl
  have g_Search := Y_Search.g
  refine okE Fn sc_Search_back ?len (fun cdv A outer s H E hr => ⟨_, (pss_cons (ps_if (pt_cmpR op_eq (pe_callB (w_len (K' := K) rfl) (by rfl) B.len_ (by decide +kernel) (pa_cons (pe_fld (pv 0) rfl) pa_nil)) pe_int (nomark _)) (pss_one (ps_raiseX (x := "NothingLeft") (YE .left) rfl)) pss_nil)
      pss_never), ?_⟩)
  case len =>
    rintro M ss C' ⟨p, q, n, h, rfl, rfl, rfl⟩ <;> rfl
  rintro M ss C' ⟨p, q, n, h, rfl, rfl, rfl⟩ F L σ H D hE hL o
  try dsimp only [cxOf]
  replace o : Ok K F L σ H [.loc (.ref p)] (srM C_Search n [h] p q) := o
  exact xq_ifT (et_is (et_test (ev_eqI (ev_lenM (EvA.cons (ev_srPast Y_Search (ev_varL rfl) List.mem_cons_self) EvA.nil) (List.mem_cons_of_mem _ List.mem_cons_self)) ev_int)) rfl) (fun H D o => hE _ o.fr (o.mobs fun x hx => hx)) o

theorem okX_Search_back {C_Search : Addr} (T : RawM K C_Search "back" "Search.back" s_Search_back) (B : Bl mg) {ce : CE} (YE : ErrsC K mg ce) (Y_Search : SearchC K mg C_Search) : HasMX P w K mg base C_Search 13 "back" ["self"] (spE K (X_back ce C_Search)) := by
  obtain ⟨f, fd, Fn, Mt⟩ := T
  exact ⟨f, fd, ((okX_Search_back_A Fn B YE Y_Search).mono (by decide)), Mt, Fn.binds fun _ _ _ _ _ _ us hl => match us, hl with | [_], _ => rfl⟩
/-! deeds on a search, their outcomes -/
def sStand : Str := "stand"
def sBack : Str := "back"
abbrev St1 := List Int × List Str
def intD : PyData → Int
  | .int i => i
  | _ => 0
def strD : PyData → Str
  | .str x => x
  | _ => Str.empty
theorem within_eq {d : PyData} {lo hi : Int} (h : within d lo hi = true) : d = .int (intD d) ∧ lo ≤ intD d ∧ intD d ≤ hi := by
  cases d with
  | int i =>
    unfold within at h
    rw [Bool.and_eq_true, decide_eq_true_eq, decide_eq_true_eq] at h
    exact ⟨rfl, h⟩
  | _ => cases h
theorem isWord_eq {d : PyData} (h : isWord d = true) : d = .str (strD d) ∧ strD d ∈ wordsL := by
  cases d with
  | str x => exact ⟨rfl, of_decide_eq_true h⟩
  | _ => cases h
/-- the state behind a stand -/
def aftS (n : Nat) (h : St1) (d : PyData) : Except Er St1 := if within d 1 n = true then (if (h.2.length : Int) < h.1.length - 1 then .error .now else .ok (h.1 ++ [intD d], h.2)) else .error .place
/-- .. behind an answer -/
def aftA (n : Nat) (h : St1) (d : PyData) : Except Er St1 := if isWord d = true then (if (h.2.length : Int) < h.1.length - 1 then (if places n h.1 (h.2 ++ [strD d]) = [] then .error .never else .ok (h.1, h.2 ++ [strD d])) else .error .now) else .error .ans
def aftW (n : Nat) (h : St1) (wd : Str) (d : PyData) : Except Er St1 := if wd = sStand then aftS n h d else aftA n h d
/-- .. behind a deed: all states -/
def outD (n : Nat) (hs : Hst) (h : St1) (wd : Str) (d : PyData) : Except Er Hst := if wd = sBack then (if hs = [] then .error .left else .ok hs) else match aftW n h wd d with
  | .error x => .error x
  | .ok h' => .ok (hs ++ [h] ++ [h'])
/-- what a state keeps -/
structure Gd (h : St1) : Prop where
  a : h.2.length ≤ h.1.length - 1
  b : h.1.length ≤ h.2.length + 2
  w : ∀ w ∈ h.2, w ∈ wordsL
theorem ws_ok {ws : List Str} {wd : Str} (hw : ∀ w ∈ ws, w ∈ wordsL) (h : wd ∈ wordsL) : ∀ w ∈ ws ++ [wd], w ∈ wordsL := fun w z => by
  rcases List.mem_append.mp z with z | z
  · exact hw w z
  · rw [List.mem_singleton.mp z]; exact h
theorem Gd.aft {n : Nat} {h h' : St1} {wd : Str} {d : PyData} (g : Gd h) (e : aftW n h wd d = .ok h') : Gd h' ∧ h'.1.length ≤ h.1.length + 1 := by
  obtain ⟨xs, ws⟩ := h
  have ga := g.a; have gb := g.b; have gw := g.w
  simp only at ga gb gw
  unfold aftW at e
  split at e
  · unfold aftS at e
    split at e
    · split at e
      · cases e
      · rename_i h1
        cases e
        simp only at h1 ⊢
        exact ⟨⟨by simp; omega, by simp; omega, gw⟩, by simp⟩
    · cases e
  · unfold aftA at e
    split at e
    · rename_i hd
      split at e
      · rename_i h1
        split at e
        · cases e
        · cases e
          simp only at h1 ⊢
          exact ⟨⟨by simp; omega, by simp; omega, ws_ok gw (isWord_eq hd).2⟩, by simp⟩
      · cases e
    · cases e
/-- what `due` holds -/
def afD : Except Er St1 → PyData
  | .error x => .list [.str x.nm, .bool true]
  | .ok h => stD h
def R_law_from (ds : List PyData) (r : PyData) : Prop := ∃ d lo hi, ds = [d, .int lo, .int hi] ∧ r = .bool (within d lo hi)
theorem ev_law_from {K : PySem.W.Frag} {ta tb tc : TE} {ρ : List Sl} {M M1 M2 M3 : Ms} {E : XK} {d : PyData} {lo hi : Int} (ha : Ev K ta ρ M (.dat d) M1) (hb : Ev K tb ρ M1 (.dat (.int lo)) M2) (hc : Ev K tc ρ M2 (.dat (.int hi)) M3) :
    Ev K (tCall (spP K R_law_from) [] E (tCons ta (tCons tb (tCons tc tNil)))) ρ M (.dat (.bool (within d lo hi))) M3 := ev_callD (ed_cons ha (ed_cons hb (ed_cons hc ed_nil))) ⟨d, lo, hi, rfl, rfl⟩
abbrev s_law_from : Stmt := topS 27
theorem sc_law_from : FnScope ["thing", "least", "top"] ["thing", "least", "top"] (defScope s_law_from) := ⟨rfl, rfl, rfl, by decide +kernel, rfl, by decide +kernel, by decide +kernel⟩
theorem ok_law_from (T : Raw K mg "_law_from" "_law_from" s_law_from) (B : Bl mg)    : Has P w K mg base 1 "_law_from" ["thing", "least", "top"] (spP K R_law_from) := by
  obtain ⟨f, fd, Fn, hg⟩ := T
  refine ⟨f, fd, okP Fn sc_law_from ?len (fun cdv A outer s H E hr => ⟨_, (pss_one (ps_ret (pe_and (pe_callB (w_isi (K' := K) rfl) (by rfl) B.isinstance_ (by decide +kernel) (pa_cons (pv 0) (pa_cons (pe_bltn (by rfl) B.int_ (by decide +kernel) (show RelV (.ty "int") _ from rfl)) pa_nil))) (pe_and (pe_not (pe_callB (w_isi (K' := K) rfl) (by rfl) B.isinstance_ (by decide +kernel) (pa_cons (pv 0) (pa_cons (pe_bltn (by rfl) B.bool_ (by decide +kernel) (show RelV (.ty "bool") _ from rfl)) pa_nil)))) (pe_and (pe_cmpR op_le (pv 1) (pv 0) (nomark _)) (pe_one (pe_cmpR op_le (pv 0) (pv 2) (nomark _)))))))), ?_⟩), hg, Fn.kp, Fn.binds fun _ _ _ _ _ _ us hl => match us, hl with | [_, _, _], _ => rfl⟩
  case len =>
    rintro ds r ⟨d, lo, hi, rfl, rfl⟩; rfl
  rintro ds r ⟨d, lo, hi, rfl, rfl⟩ F L σ H D hrt hnx o
  try dsimp only [cxOf]
  refine s_retP0 ?_ hrt o
  cases d with
  | int i => exact ev_isD (ev_andV (by wtm_at "ev") fun _ => ev_andV (by wtm_at "ev") fun _ => ev_andV2 (by wtm_at "ev") (by wtm_at "ev")) (by simp [isD, tyD, within])
  | bool b => exact ev_isD (ev_andV (by wtm_at "ev") fun _ => ev_andV (b := false) (by wtm_at "ev") fun e => by simp [isD, tyD] at e) (by simp [isD, tyD, within])
  | none => exact ev_isD (ev_andV (b := false) (by wtm_at "ev") fun e => by simp [isD, tyD] at e) (by simp [isD, tyD, within])
  | str x => exact ev_isD (ev_andV (b := false) (by wtm_at "ev") fun e => by simp [isD, tyD] at e) (by simp [isD, tyD, within])
  | list x => exact ev_isD (ev_andV (b := false) (by wtm_at "ev") fun e => by simp [isD, tyD] at e) (by simp [isD, tyD, within])
  | tuple x => exact ev_isD (ev_andV (b := false) (by wtm_at "ev") fun e => by simp [isD, tyD] at e) (by simp [isD, tyD, within])
  | dict x => exact ev_isD (ev_andV (b := false) (by wtm_at "ev") fun e => by simp [isD, tyD] at e) (by simp [isD, tyD, within])
def R_law_open (ds : List PyData) (r : PyData) : Prop := ∃ (n : Nat) (xs : List Int) (ws : List Str), ds = [.int n, dI xs, dS ws] ∧ n ≤ 60 ∧ xs.length ≤ 1000 ∧ (∀ w ∈ ws, w ∈ wordsL) ∧ r = dTI (places n (xs.take (ws.length + 1)) ws)
theorem ev_law_open {K : PySem.W.Frag} {ta tb tc : TE} {ρ : List Sl} {M M1 M2 M3 : Ms} {E : XK} {n : Nat} {xs : List Int} {ws : List Str} (ha : Ev K ta ρ M (.dat (.int n)) M1) (hb : Ev K tb ρ M1 (.dat (dI xs)) M2) (hc : Ev K tc ρ M2 (.dat (dS ws)) M3) (hn : n ≤ 60) (hl : xs.length ≤ 1000) (hw : ∀ w ∈ ws, w ∈ wordsL) :
    Ev K (tCall (spP K R_law_open) [] E (tCons ta (tCons tb (tCons tc tNil)))) ρ M (.dat (dTI (places n (xs.take (ws.length + 1)) ws))) M3 := ev_callD (ed_cons ha (ed_cons hb (ed_cons hc ed_nil))) ⟨n, xs, ws, rfl, hn, hl, hw, rfl⟩
theorem places_snoc (k : Nat) (xs : List Int) (ws : List Str) : places (k + 1 : Nat) xs ws = places k xs ws ++ if answers ((k : Int) + 1) xs = ws then [((k : Int) + 1)] else [] := by
  unfold places
  rw [show (((k + 1 : Nat) : Int)).toNat = k + 1 by omega, show ((k : Nat) : Int).toNat = k by omega, List.range_succ, List.filter_append, List.map_append]
  congr 1
  have e : (1 + (k : Nat) : Int) = (k : Int) + 1 := by omega
  by_cases h : answers ((k : Int) + 1) xs = ws
  · rw [if_pos h, List.filter_cons_of_pos (by rw [e, decide_eq_true h])]
    simp [e]
  · rw [if_neg h, List.filter_cons_of_neg (by rw [e, decide_eq_false h]; exact Bool.false_ne_true)]
    rfl
theorem places_zero (xs : List Int) (ws : List Str) : places ((0 : Nat) : Int) xs ws = [] := rfl
theorem places_len (n : Nat) (xs : List Int) (ws : List Str) : (places n xs ws).length ≤ n := by
  unfold places
  rw [List.length_map]
  exact Nat.le_trans (List.length_filter_le ..) (by rw [List.length_range]; omega)
abbrev s_law_open : Stmt := topS 34
theorem sc_law_open : FnScope ["length", "stands", "words", "some", "thing"] ["length", "stands", "words"] (defScope s_law_open) := ⟨rfl, rfl, rfl, by decide +kernel, rfl, by decide +kernel, by decide +kernel⟩
theorem ok_law_open (T : Raw K mg "_law_open" "_law_open" s_law_open) (B : Bl mg)   (h_law_words : Has P w K mg base 2 "_law_words" ["thing", "stands"] (spN K R_law_words)) : Has P w K mg base 3 "_law_open" ["length", "stands", "words"] (spP K R_law_open) := by
  obtain ⟨f, fd, Fn, hg⟩ := T
  obtain ⟨_, _, G_law_words, g_law_words, k_law_words, b_law_words⟩ := h_law_words
  refine ⟨f, fd, okP Fn sc_law_open ?len (fun cdv A outer s H E hr => ⟨_, (pss_cons (ps_set (i := 3) sc_law_open.nd rfl (by first | exact .inl rfl | exact .inr rfl) (pe_lst pa_nil))
      (pss_cons (ps_for PassesOwn.never rfl (pi_range2 (by rfl) B.range_ (pa_cons pe_int (pa_cons (pe_op op_add (pv 0) pe_int) pa_nil))) (pg_name (i := 4) sc_law_open.nd rfl (by first | exact .inl rfl | exact .inr rfl))
      (pss_one (ps_if (pt_cmpR (w_eqD (K' := K) rfl hr.units) (pe_call G_law_words (hr.mono (by first | decide | omega)) (by rfl) g_law_words k_law_words b_law_words .nil pass0 (pa_cons (pv 4) (pa_cons (pe_slice (w_slL (K' := K) rfl) (pv 1) po_none (po_some (pe_op op_add (pe_callB (w_len (K' := K) rfl) (by rfl) B.len_ (by decide +kernel) (pa_cons (pv 2) pa_nil)) pe_int))) pa_nil))) (pv 2) (nomark _)) (pss_one (ps_expr (pe_bm PySem.F.plainAttrs_list PySem.F.slot_list_append PySem.F.type_list_append mt_append (pv 3) (pa_cons (pv 4) pa_nil)))) pss_nil)))
      (pss_one (ps_ret (we_tupleOf (K' := K) rfl (by rfl) B.tuple_ (pv 3)))))), ?_⟩), hg, Fn.kp, Fn.binds fun _ _ _ _ _ _ us hl => match us, hl with | [_, _, _], _ => rfl⟩
  case len =>
    rintro ds r ⟨n, xs, ws, rfl, hn, hl, hw, rfl⟩; rfl
  rintro ds r ⟨n, xs, ws, rfl, hn, hl, hw, rfl⟩ F L σ H D hrt hnx o
  try dsimp only [cxOf]
  refine q_asgN0 (evn_lst (ds := []) EvA.nil) (fun q σ H o => ?_) o
  refine q_for0 (n := n) (item := fun i => .int (1 + (i : Nat))) (fun i ρ M => ∃ s4, ρ = [.dat (.int n), .dat (dI xs), .dat (dS ws), .loc (.ref q), s4] ∧ M = [(q, .lst ((places (i : Nat) (xs.take (ws.length + 1)) ws).map PyData.int))])
    ?ei (by wtm_at "eg") ⟨.un, rfl, rfl⟩ (fun F' sF i hi ρ M hJ σ H o => ?_) (fun ρ M hJ σ H o => ?_) o
  case ei =>
    have h := ei_rng2 (K := K) (ρ := [.dat (.int n), .dat (dI xs), .dat (dS ws), .loc (.ref q), .un]) (M := [(q, .lst [])]) (M1 := [(q, .lst [])]) (i := 1) (j := (n : Int) + 1) (tr := tCons (tC (.int 1)) (tCons (tOp (rI0 fun i j => .int (i + j)) (tVar 0) (tC (.int 1))) tNil)) (by wtm_at "ea") (by omega)
    rw [show ((n : Int) + 1 - 1).toNat = n by omega] at h
    exact h
  · obtain ⟨s4, rfl, rfl⟩ := hJ
    replace o : Ok K F' L σ H [.dat (.int n), .dat (dI xs), .dat (dS ws), .loc (.ref q), .dat (.int (1 + (i : Nat)))] [(q, .lst ((places (i : Nat) (xs.take (ws.length + 1)) ws).map PyData.int))] := o
    have e1 : (1 + (i : Nat) : Int) = (i : Int) + 1 := by omega
    have hok : ∀ w ∈ ws, PyData.strOk w = true := fun w h => wordsL_ok _ (hw w h)
    refine s_if0 (b := decide (answers ((i : Int) + 1) (xs.take (ws.length + 1)) = ws)) (et_is (et_test (ev_eqD (d1 := dS (answers (1 + (i : Nat)) (xs.take (ws.length + 1)))) (d2 := dS ws) (EvN.ev (ev_law_words (ev_varD rfl) (EvN.ev (evn_is (evn_slL (ev_varD rfl) eo_no (eo_some (ev_add (ev_lenL (EvA.cons (ev_varD rfl) EvA.nil)) ev_int))) (by rw [List.length_map, List.map_take]; exact cutD_take _ _))) (by rw [List.length_take]; omega))) (ev_varD rfl) ((sh_dS (answers_ok _ _)).shaped (by decide)) ((sh_dS hok).shaped (by decide)))) ?_) (fun e H o => ?_) (fun e H o => ?_) o
    · rw [eqv_dS, e1]
    · refine s_app (j := 0) (ev_varL rfl) (ev_varD rfl) rfl rfl (by have := places_len i (xs.take (ws.length + 1)) ws; rw [List.length_map]; omega) (fun σ H o => ?_) o
      refine ⟨_, _, ⟨.dat (.int (1 + (i : Nat))), rfl, rfl⟩, ?_⟩
      rw [places_snoc, if_pos (of_decide_eq_true e), List.map_append, ← e1]
      exact o
    · refine ⟨_, _, ⟨.dat (.int (1 + (i : Nat))), rfl, rfl⟩, ?_⟩
      rw [places_snoc, if_neg (of_decide_eq_false e), List.append_nil]
      exact o
  · obtain ⟨s4, rfl, rfl⟩ := hJ
    exact s_retP0 (ev_tupleM (ev_varL rfl) List.mem_cons_self) hrt o
def R_law_after (ds : List PyData) (r : PyData) : Prop := ∃ (n : Nat) (h : St1) (wd : Str) (d : PyData), ds = [.int n, stD h, .tuple [.str wd, d]] ∧ n ≤ 60 ∧ h.1.length ≤ 900 ∧ Gd h ∧ r = afD (aftW n h wd d)
theorem ev_law_after {K : PySem.W.Frag} {ta tb tc : TE} {ρ : List Sl} {M M1 M2 M3 : Ms} {E : XK} {n : Nat} {h : St1} {wd : Str} {d : PyData} (ha : Ev K ta ρ M (.dat (.int n)) M1) (hb : Ev K tb ρ M1 (.dat (stD h)) M2) (hc : Ev K tc ρ M2 (.dat (.tuple [.str wd, d])) M3) (hn : n ≤ 60) (hl : h.1.length ≤ 900) (hg : Gd h) :
    Ev K (tCall (spP K R_law_after) [] E (tCons ta (tCons tb (tCons tc tNil)))) ρ M (.dat (afD (aftW n h wd d))) M3 := ev_callD (ed_cons ha (ed_cons hb (ed_cons hc ed_nil))) ⟨n, h, wd, d, rfl, hn, hl, hg, rfl⟩
def wordsB : List Str := [wWarm, wCold, wSame]
theorem wordsB_mem (w : Str) : w ∈ wordsB ↔ w ∈ wordsL := by
  unfold wordsB wordsL
  simp only [List.mem_cons, List.not_mem_nil, or_false]
  constructor
  · rintro (h | h | h)
    · exact .inr (.inr h)
    · exact .inl h
    · exact .inr (.inl h)
  · rintro (h | h | h)
    · exact .inr (.inl h)
    · exact .inr (.inr h)
    · exact .inl h
abbrev s_law_after : Stmt := topS 35
theorem sc_law_after : FnScope ["length", "state", "deed", "stands", "words", "word", "thing", "waits"] ["length", "state", "deed"] (defScope s_law_after) := ⟨rfl, rfl, rfl, by decide +kernel, rfl, by decide +kernel, by decide +kernel⟩
theorem ok_law_after (T : Raw K mg "_law_after" "_law_after" s_law_after) (B : Bl mg)   (h_law_from : Has P w K mg base 1 "_law_from" ["thing", "least", "top"] (spP K R_law_from)) (h_law_open : Has P w K mg base 3 "_law_open" ["length", "stands", "words"] (spP K R_law_open)) : Has P w K mg base 4 "_law_after" ["length", "state", "deed"] (spP K R_law_after) := by
  obtain ⟨f, fd, Fn, hg⟩ := T
  obtain ⟨_, _, G_law_from, g_law_from, k_law_from, b_law_from⟩ := h_law_from
  obtain ⟨_, _, G_law_open, g_law_open, k_law_open, b_law_open⟩ := h_law_open
  refine ⟨f, fd, okP Fn sc_law_after ?len (fun cdv A outer s H E hr => ⟨_, (pss_cons (ps_asg (pv 1) (pg_tup rfl (pgs_cons (pg_name (i := 3) sc_law_after.nd rfl (by first | exact .inl rfl | exact .inr rfl)) (pgs_cons (pg_name (i := 4) sc_law_after.nd rfl (by first | exact .inl rfl | exact .inr rfl)) pgs_nil))))
      (pss_cons (ps_asg (pv 2) (pg_tup rfl (pgs_cons (pg_name (i := 5) sc_law_after.nd rfl (by first | exact .inl rfl | exact .inr rfl)) (pgs_cons (pg_name (i := 6) sc_law_after.nd rfl (by first | exact .inl rfl | exact .inr rfl)) pgs_nil))))
      (pss_cons (ps_set (i := 7) sc_law_after.nd rfl (by first | exact .inl rfl | exact .inr rfl) (pe_cmpR op_gt (pe_op op_sub (pe_callB (w_len (K' := K) rfl) (by rfl) B.len_ (by decide +kernel) (pa_cons (pv 3) pa_nil)) pe_int) (pe_callB (w_len (K' := K) rfl) (by rfl) B.len_ (by decide +kernel) (pa_cons (pv 4) pa_nil)) (nomark _)))
      (pss_cons (ps_if (pt_cmpR op_eq (pv 5) pe_str (nomark _)) (pss_cons (ps_if (pt_not (pt_val (pe_call G_law_from (hr.mono (by first | decide | omega)) (by rfl) g_law_from k_law_from b_law_from .nil pass0 (pa_cons (pv 6) (pa_cons pe_int (pa_cons (pv 0) pa_nil)))))) (pss_one (ps_ret (pe_lst (pa_cons pe_str (pa_cons pe_bl pa_nil))))) pss_nil)
      (pss_one (ps_ret (pe_ifExp (pt_val (pv 7)) (pe_lst (pa_cons pe_str (pa_cons pe_bl pa_nil))) (pe_tup (pa_cons (pe_op o_cat (pv 3) (pe_lst (pa_cons (pv 6) pa_nil))) (pa_cons (pv 4) pa_nil))))))) pss_nil)
      (pss_cons (ps_if (PW.pt (pw_or (pt_not (pt_val (pe_callB (w_isi (K' := K) rfl) (by rfl) B.isinstance_ (by decide +kernel) (pa_cons (pv 6) (pa_cons (pe_bltn (by rfl) B.str_ (by decide +kernel) (show RelV (.ty "str") _ from rfl)) pa_nil))))) (pw_or1 (pt_cmpR (w_notIn (K' := K) rfl) (pv 6) (pe_lst (pa_cons pe_str (pa_cons pe_str (pa_cons pe_str pa_nil)))) (by rfl))))) (pss_one (ps_ret (pe_lst (pa_cons pe_str (pa_cons pe_bl pa_nil))))) pss_nil)
      (pss_cons (ps_if (pt_not (pt_val (pv 7))) (pss_one (ps_ret (pe_lst (pa_cons pe_str (pa_cons pe_bl pa_nil))))) pss_nil)
      (pss_cons (ps_if (pt_cmpR (w_eqD (K' := K) rfl hr.units) (pe_call G_law_open (hr.mono (by first | decide | omega)) (by rfl) g_law_open k_law_open b_law_open .nil pass0 (pa_cons (pv 0) (pa_cons (pv 3) (pa_cons (pe_op o_cat (pv 4) (pe_lst (pa_cons (pv 6) pa_nil))) pa_nil)))) (pe_tup pa_nil) (nomark _)) (pss_one (ps_ret (pe_lst (pa_cons pe_str (pa_cons pe_bl pa_nil))))) pss_nil)
      (pss_one (ps_ret (pe_tup (pa_cons (pv 3) (pa_cons (pe_op o_cat (pv 4) (pe_lst (pa_cons (pv 6) pa_nil))) pa_nil)))))))))))), ?_⟩), hg, Fn.kp, Fn.binds fun _ _ _ _ _ _ us hl => match us, hl with | [_, _, _], _ => rfl⟩
  case len =>
    rintro ds r ⟨n, ⟨xs, ws⟩, wd, d, rfl, hn, hl, hg, rfl⟩; rfl
  rintro ds r ⟨n, ⟨xs, ws⟩, wd, d, rfl, hn, hl, hg, rfl⟩ F L σ H D hrt hnx o
  have ga := hg.a; have gb := hg.b; have gw := hg.w
  simp only at ga gb gw hl
  try dsimp only [cxOf]
  replace o : Ok K F L σ H [.dat (.int n), .dat (.tuple [dI xs, dS ws]), .dat (.tuple [.str wd, d]), .un, .un, .un, .un, .un] [] := o
  refine q_asg2 (ev_varD rfl) (fun σ H o => ?_) o
  refine q_asg2 (ev_varD rfl) (fun σ H o => ?_) o
  replace o : Ok K F L σ H [.dat (.int n), .dat (.tuple [dI xs, dS ws]), .dat (.tuple [.str wd, d]), .dat (dI xs), .dat (dS ws), .dat (.str wd), .dat d, .un] [] := o
  refine q_asg0 (s := .dat (.bool (decide ((ws.length : Int) < xs.length - 1)))) (ev_isD (ev_gt (ev_sub (ev_lenL (EvA.cons (ev_varD rfl) EvA.nil)) ev_int) (ev_lenL (EvA.cons (ev_varD rfl) EvA.nil))) (by rw [List.length_map, List.length_map])) (fun σ H o => ?_) o
  replace o : Ok K F L σ H [.dat (.int n), .dat (.tuple [dI xs, dS ws]), .dat (.tuple [.str wd, d]), .dat (dI xs), .dat (dS ws), .dat (.str wd), .dat d, .dat (.bool (decide ((ws.length : Int) < xs.length - 1)))] [] := o
  have two : ∀ {x : Str}, EvN K (tLst (tCons (tC (.str x)) (tCons (tC (.bl true)) tNil))) [.dat (.int n), .dat (.tuple [dI xs, dS ws]), .dat (.tuple [.str wd, d]), .dat (dI xs), .dat (dS ws), .dat (.str wd), .dat d, .dat (.bool (decide ((ws.length : Int) < xs.length - 1)))] [] [.str x, .bool true] [] := evn_lst (ds := [.str _, .bool true]) (EvA.cons ev_str (EvA.cons ev_bl EvA.nil))
  have hcat : Ev K (tOp rCatL (tVar 4) (tLst (tCons (tVar 6) tNil))) [.dat (.int n), .dat (.tuple [dI xs, dS ws]), .dat (.tuple [.str wd, d]), .dat (dI xs), .dat (dS ws), .dat (.str wd), .dat d, .dat (.bool (decide ((ws.length : Int) < xs.length - 1)))] [] (.dat (.list (ws.map PyData.str ++ [d]))) [] := EvN.ev (evn_cat (ev_varD rfl) (EvN.ev (evn_lst (ds := [d]) (EvA.cons (ev_varD rfl) EvA.nil))) (by simp; omega))
  by_cases e0 : wd = sStand
  · have ea : aftW n (xs, ws) wd d = aftS n (xs, ws) d := if_pos e0
    refine q_if10 (b := true) (et_is (et_test (ev_eqS (ev_varD rfl) ev_str)) (decide_eq_true e0)) (fun _ H o => ?_) (fun e => by cases e) o
    refine q_ifR0 (D := { D with nx := _ }) (b := !within d 1 n) (et_not (et_test (ev_law_from (ev_varD rfl) ev_int (ev_varD rfl)))) (fun e H o => ?_) (fun e H o => ?_) o
    · refine s_retP0 (ev_isD (EvN.ev two) ?_) hrt o
      rw [ea]
      unfold aftS
      rw [if_neg (by rw [Bool.not_eq_true'] at e; rw [e]; exact Bool.false_ne_true)]
      rfl
    · have e1 : within d 1 n = true := by simpa using e
      obtain ⟨i, rfl⟩ : ∃ i, d = .int i := ⟨_, (within_eq e1).1⟩
      refine s_retP0 (ev_isD (ev_ite2 (et_test (ev_varD rfl)) (EvN.ev two) (ev_tupD (ds := [.list (xs.map PyData.int ++ [.int i]), dS ws]) (ed_cons (EvN.ev (evn_cat (ev_varD rfl) (EvN.ev (evn_lst (ds := [.int i]) (EvA.cons (ev_varD rfl) EvA.nil))) (by simp; omega))) (ed_cons (ev_varD rfl) ed_nil)) (by simp))) ?_) hrt o
      rw [ea]
      unfold aftS
      rw [if_pos e1]
      by_cases h1 : (ws.length : Int) < xs.length - 1
      · rw [if_pos (decide_eq_true h1), if_pos h1]; rfl
      · rw [if_neg (by rw [decide_eq_false h1]; exact Bool.false_ne_true), if_neg h1]
        show PyData.tuple [_, _] = PyData.tuple [.list ((xs ++ [i]).map PyData.int), _]
        rw [List.map_append]; rfl
  · have ea : aftW n (xs, ws) wd d = aftA n (xs, ws) d := if_neg e0
    refine q_if10 (b := false) (et_is (et_test (ev_eqS (ev_varD rfl) ev_str)) (decide_eq_false e0)) (fun e => by cases e) (fun _ H o => ?_) o
    have hwB : EvN K (tLst (tCons (tC (.str "warm")) (tCons (tC (.str "cold")) (tCons (tC (.str "same")) tNil)))) [.dat (.int n), .dat (.tuple [dI xs, dS ws]), .dat (.tuple [.str wd, d]), .dat (dI xs), .dat (dS ws), .dat (.str wd), .dat d, .dat (.bool (decide ((ws.length : Int) < xs.length - 1)))] [] (wordsB.map PyData.str) [] := evn_lst (ds := [.str wWarm, .str wCold, .str wSame]) (EvA.cons ev_str (EvA.cons ev_str (EvA.cons ev_str EvA.nil)))
    by_cases hw : isWord d = true
    · obtain ⟨w, rfl⟩ : ∃ w, d = .str w := ⟨_, (isWord_eq hw).1⟩
      have hwm : w ∈ wordsL := (isWord_eq hw).2
      refine q_ifF0 (et_orF (et_is (et_not (et_test (ev_isi (ev_varD rfl) (by simp)))) rfl) (et_is (et_test (ev_notInS (ev_varD rfl) (EvN.ev hwB))) (by rw [decide_eq_true ((wordsB_mem w).mpr hwm)]; rfl))) (fun H o => ?_) o
      refine q_ifR0 (et_not (et_test (ev_varD rfl))) (fun e H o => ?_) (fun e H o => ?_) o
      · have h1 : ¬ (ws.length : Int) < xs.length - 1 := by simpa using e
        refine s_retP0 (ev_isD (EvN.ev two) ?_) hrt o
        rw [ea]
        unfold aftA
        rw [if_pos hw, if_neg h1]; rfl
      · have h1 : (ws.length : Int) < xs.length - 1 := by simpa using e
        have hc : Ev K (tOp rCatL (tVar 4) (tLst (tCons (tVar 6) tNil))) [.dat (.int n), .dat (.tuple [dI xs, dS ws]), .dat (.tuple [.str wd, .str w]), .dat (dI xs), .dat (dS ws), .dat (.str wd), .dat (.str w), .dat (.bool (decide ((ws.length : Int) < xs.length - 1)))] [] (.dat (dS (ws ++ [w]))) [] := ev_isD hcat (by show PyData.list (ws.map PyData.str ++ [PyData.str w]) = PyData.list ((ws ++ [w]).map PyData.str); rw [List.map_append]; rfl)
        have etk : xs.take ((ws ++ [w]).length + 1) = xs := List.take_of_length_le (by rw [List.length_append, List.length_singleton]; omega)
        refine q_ifR0 (b := decide (places n xs (ws ++ [w]) = [])) (et_is (et_test (ev_eqD (ev_law_open (n := n) (xs := xs) (ws := ws ++ [w]) (ev_varD rfl) (ev_varD rfl) hc hn (by omega) (ws_ok gw hwm)) (ev_tupD (ds := []) ed_nil (by simp)) (sh_dTI.shaped (by decide)) (by decide))) ?_) (fun e H o => ?_) (fun e H o => ?_) o
        · rw [etk]
          exact eqv_dTI _ []
        · refine s_retP0 (ev_isD (EvN.ev two) ?_) hrt o
          rw [ea]
          unfold aftA
          rw [if_pos hw, if_pos h1, if_pos (show places n (xs, ws).1 ((xs, ws).2 ++ [strD (.str w)]) = [] from of_decide_eq_true e)]; rfl
        · refine s_retP0 (ev_isD (ev_tupD (ds := [dI xs, dS (ws ++ [w])]) (ed_cons (ev_varD rfl) (ed_cons hc ed_nil)) (by simp)) ?_) hrt o
          rw [ea]
          unfold aftA
          rw [if_pos hw, if_pos h1, if_neg (show ¬ places n (xs, ws).1 ((xs, ws).2 ++ [strD (.str w)]) = [] from of_decide_eq_false e)]; rfl
    · refine q_ifR0 (b := true) ?et (fun e H o => ?_) (fun e => by cases e) o
      case et =>
        cases d with
        | str w => exact et_orFM (et_is (et_not (et_test (ev_isi (T := "str") (ta := tVar 6) (ev_varD rfl) (by simp)))) rfl) (et_is (et_test (ev_notInS (ta := tVar 6) (ev_varD rfl) (EvN.ev hwB))) (by rw [decide_eq_false (fun z => hw (decide_eq_true ((wordsB_mem w).mp z)))]; rfl))
        | int x => exact et_orT (et_is (et_not (et_test (ev_isi (T := "str") (ta := tVar 6) (ev_varD rfl) (by simp)))) rfl)
        | bool x => exact et_orT (et_is (et_not (et_test (ev_isi (T := "str") (ta := tVar 6) (ev_varD rfl) (by simp)))) rfl)
        | none => exact et_orT (et_is (et_not (et_test (ev_isi (T := "str") (ta := tVar 6) (ev_varD rfl) (by simp)))) rfl)
        | list x => exact et_orT (et_is (et_not (et_test (ev_isi (T := "str") (ta := tVar 6) (ev_varD rfl) (by simp)))) rfl)
        | tuple x => exact et_orT (et_is (et_not (et_test (ev_isi (T := "str") (ta := tVar 6) (ev_varD rfl) (by simp)))) rfl)
        | dict x => exact et_orT (et_is (et_not (et_test (ev_isi (T := "str") (ta := tVar 6) (ev_varD rfl) (by simp)))) rfl)
      refine s_retP0 (ev_isD (EvN.ev two) ?_) hrt o
      rw [ea]
      unfold aftA
      rw [if_neg hw]; rfl
/-- a deed that is done -/
structure DoB (n : Nat) (hs : Hst) (h : St1) : Prop where
  n1 : n ≤ 60
  l1 : hs.length < 900
  l2 : h.1.length < 900
  g : Gd h
def R_law_do (C : Addr) (M : Ms) (ss : List Sl) (r : PyData) (M' : Ms) : Prop := ∃ (p q : Addr) (n : Nat) (hs : Hst) (xs : List Int) (ws : List Str) (wd : Str) (d : PyData) (fu : Hst), M = srM C n (hs ++ [(xs, ws)]) p q ∧ M' = srM C n fu p q ∧ ss = [.loc (.ref p), .dat (.tuple [.str wd, d])] ∧ DoB n hs (xs, ws) ∧ outD n hs (xs, ws) wd d = .ok fu ∧ r = .none
def X_law_do (ce : CE) (C : Addr) (M : Ms) (ss : List Sl) (D : Addr) : Prop := ∃ (p q : Addr) (n : Nat) (hs : Hst) (xs : List Int) (ws : List Str) (wd : Str) (d : PyData) (x : Er), M = srM C n (hs ++ [(xs, ws)]) p q ∧ ss = [.loc (.ref p), .dat (.tuple [.str wd, d])] ∧ DoB n hs (xs, ws) ∧ outD n hs (xs, ws) wd d = .error x ∧ D = ce x
theorem out_aft {n : Nat} {hs : Hst} {h : St1} {wd : Str} {d : PyData} {fu : Hst} (e : outD n hs h wd d = .ok fu) (hb : wd ≠ sBack) : ∃ h', aftW n h wd d = .ok h' ∧ fu = hs ++ [h] ++ [h'] := by
  unfold outD at e
  rw [if_neg hb] at e
  split at e
  · cases e
  · rename_i h' e2
    cases e
    exact ⟨h', e2, rfl⟩
theorem out_err {n : Nat} {hs : Hst} {h : St1} {wd : Str} {d : PyData} {x : Er} (e : outD n hs h wd d = .error x) (hb : wd ≠ sBack) : aftW n h wd d = .error x := by
  unfold outD at e
  rw [if_neg hb] at e
  split at e
  · rename_i y e2
    cases e
    exact e2
  · cases e
theorem stand_back : sStand ≠ sBack := by decide +kernel
abbrev s_law_do : Stmt := topS 36
theorem sc_law_do : FnScope ["search", "deed"] ["search", "deed"] (defScope s_law_do) := ⟨rfl, rfl, rfl, by decide +kernel, rfl, by decide +kernel, by decide +kernel⟩
theorem ok_law_do (T : Raw K mg "_law_do" "_law_do" s_law_do) (B : Bl mg)  {C_Search : Addr} (Y_Search : SearchC K mg C_Search) (h_Search_stand : HasM P w K mg base C_Search 12 "stand" ["self", "place"] (spMs K (R_stand C_Search))) (h_Search_back : HasM P w K mg base C_Search 1 "back" ["self"] (spMs K (R_sBack C_Search))) (h_Search_answer : HasM P w K mg base C_Search 12 "answer" ["self", "word"] (spMs K (R_sAnswer C_Search))) : Has P w K mg base 13 "_law_do" ["search", "deed"] (spMs K (R_law_do C_Search)) := by
  obtain ⟨f, fd, Fn, hg⟩ := T
  obtain ⟨_, _, G_Search_stand, m_Search_stand, b_Search_stand⟩ := h_Search_stand
  obtain ⟨_, _, G_Search_back, m_Search_back, b_Search_back⟩ := h_Search_back
  obtain ⟨_, _, G_Search_answer, m_Search_answer, b_Search_answer⟩ := h_Search_answer
  have c_Search := Y_Search.cl
  have g_Search := Y_Search.g
  refine ⟨f, fd, okMs Fn sc_law_do ?len (fun cdv A outer s H E hr => ⟨_, (pss_cons (ps_if (pt_cmpR op_eq (pe_ix (w_ixT (K' := K) rfl) (pv 1) pe_int (fun _ _ => rfl)) pe_str (nomark _)) (pss_one (ps_ret (pe_meth (pv 0) c_Search m_Search_stand G_Search_stand (hr.mono (by first | decide | omega)) b_Search_stand .nil pass0 (pa_cons (pe_ix (w_ixT (K' := K) rfl) (pv 1) pe_int (fun _ _ => rfl)) pa_nil)))) pss_nil)
      (pss_one (ps_ret (pe_ifExp (pt_cmpR op_eq (pe_ix (w_ixT (K' := K) rfl) (pv 1) pe_int (fun _ _ => rfl)) pe_str (nomark _)) (pe_meth0 (pv 0) c_Search m_Search_back G_Search_back (hr.mono (by first | decide | omega)) b_Search_back .nil pass0) (pe_meth (pv 0) c_Search m_Search_answer G_Search_answer (hr.mono (by first | decide | omega)) b_Search_answer .nil pass0 (pa_cons (pe_ix (w_ixT (K' := K) rfl) (pv 1) pe_int (fun _ _ => rfl)) pa_nil)))))), ?_⟩), hg, Fn.kp, Fn.binds fun _ _ _ _ _ _ us hl => match us, hl with | [_, _], _ => rfl⟩
  case len =>
    rintro M ss r M' ⟨p, q, n, hs, xs, ws, wd, d, fu, rfl, rfl, rfl, hB, hout, rfl⟩ <;> rfl
  rintro M ss r M' ⟨p, q, n, hs, xs, ws, wd, d, fu, rfl, rfl, rfl, hB, hout, rfl⟩ F L σ H D hrt hnx hL o
  try dsimp only [cxOf]
  replace o : Ok K F L σ H [.loc (.ref p), .dat (.tuple [.str wd, d])] (srM C_Search n (hs ++ [(xs, ws)]) p q) := o
  have h0 : ∀ {M : Ms}, Ev K (tOp (rIxT K) (tVar 1) (tC (.int 0))) [.loc (.ref p), .dat (.tuple [.str wd, d])] M (.dat (.str wd)) M := fun {M} => ev_ixT (ev_varD rfl) ev_int rfl
  have h1 : ∀ {M : Ms}, Ev K (tOp (rIxT K) (tVar 1) (tC (.int 1))) [.loc (.ref p), .dat (.tuple [.str wd, d])] M (.dat d) M := fun {M} => ev_ixT (ev_varD rfl) ev_int rfl
  have l1 := hB.l1; have l2 := hB.l2; have n1 := hB.n1; have gw := hB.g.w
  simp only at l2 gw
  by_cases e0 : wd = sStand
  · obtain ⟨h', ea, rfl⟩ := out_aft hout (by rw [e0]; exact stand_back)
    unfold aftW at ea
    rw [if_pos e0] at ea
    unfold aftS at ea
    split at ea
    · rename_i hwi
      split at ea
      · cases ea
      · rename_i hwt
        cases ea
        obtain ⟨i, rfl⟩ : ∃ i, d = .int i := ⟨_, (within_eq hwi).1⟩
        refine q_ifR0 (b := true) (et_is (et_test (ev_eqS h0 ev_str)) (decide_eq_true e0)) (fun _ H o => ?_) (fun e => by cases e) o
        exact s_retMs (Mn := srM C_Search n (hs ++ [(xs, ws)] ++ [(xs ++ [i], ws)]) p q) (M1 := srM C_Search n (hs ++ [(xs, ws)] ++ [(xs ++ [i], ws)]) p q) (ev_srM (A := []) (by decide +kernel) (ev_varL rfl) (EvA.cons h1 EvA.nil) ⟨p, q, n, hs, xs, ws, i, rfl, rfl, rfl, (within_eq hwi).2, hwt, by omega, by omega, rfl⟩) (fun x hx => hx) hrt o
    · cases ea
  · refine q_ifR0 (b := false) (et_is (et_test (ev_eqS h0 ev_str)) (decide_eq_false e0)) (fun e => by cases e) (fun _ H o => ?_) o
    by_cases eb : wd = sBack
    · unfold outD at hout
      rw [if_pos eb] at hout
      split at hout
      · cases hout
      · rename_i hne
        cases hout
        exact s_retMs (Mn := srM C_Search n hs p q) (M1 := srM C_Search n hs p q) (ev_iteT (et_is (et_test (ev_eqS h0 ev_str)) (decide_eq_true eb)) (ev_srM (A := []) (by decide +kernel) (ev_varL rfl) EvA.nil ⟨p, q, n, hs, (xs, ws), hne, rfl, rfl, rfl, rfl⟩)) (fun x hx => hx) hrt o
    · obtain ⟨h', ea, rfl⟩ := out_aft hout eb
      unfold aftW at ea
      rw [if_neg e0] at ea
      unfold aftA at ea
      split at ea
      · rename_i hwo
        split at ea
        · rename_i hwt
          split at ea
          · cases ea
          · rename_i hpl
            cases ea
            obtain ⟨w, rfl⟩ : ∃ w, d = .str w := ⟨_, (isWord_eq hwo).1⟩
            exact s_retMs (Mn := srM C_Search n (hs ++ [(xs, ws)] ++ [(xs, ws ++ [w])]) p q) (M1 := srM C_Search n (hs ++ [(xs, ws)] ++ [(xs, ws ++ [w])]) p q) (ev_iteF (et_is (et_test (ev_eqS h0 ev_str)) (decide_eq_false eb)) (ev_srM (A := []) (by decide +kernel) (ev_varL rfl) (EvA.cons h1 EvA.nil) ⟨p, q, n, hs, xs, ws, w, rfl, rfl, rfl, (isWord_eq hwo).2, hwt, by omega, by omega, by omega, gw, hpl, rfl⟩)) (fun x hx => hx) hrt o
        · cases ea
      · cases ea

theorem okX_law_do_A {f : Addr} {fd : FuncData} (Fn : Fun K "_law_do" "_law_do" s_law_do f fd) (B : Bl mg) {ce : CE} (YE : ErrsC K mg ce) {C_Search : Addr} (Y_Search : SearchC K mg C_Search) (hX_Search_stand : HasMX P w K mg base C_Search 13 "stand" ["self", "place"] (spE K (X_stand ce C_Search))) (hX_Search_back : HasMX P w K mg base C_Search 13 "back" ["self"] (spE K (X_back ce C_Search))) (hX_Search_answer : HasMX P w K mg base C_Search 13 "answer" ["self", "word"] (spE K (X_answer ce C_Search))) : FnOk P w K mg base (L2N.CX P w) 14 f fd ["search", "deed"] (spE K (X_law_do ce C_Search)) := by
  have c_Search := Y_Search.cl
  have g_Search := Y_Search.g
  obtain ⟨_, _, GX_Search_stand, mX_Search_stand, bX_Search_stand⟩ := hX_Search_stand
  obtain ⟨_, _, GX_Search_back, mX_Search_back, bX_Search_back⟩ := hX_Search_back
  obtain ⟨_, _, GX_Search_answer, mX_Search_answer, bX_Search_answer⟩ := hX_Search_answer
  refine okE Fn sc_law_do ?len (fun cdv A outer s H E hr => ⟨_, (pss_cons (ps_if (pt_cmpR op_eq (pe_ix (w_ixT (K' := K) rfl) (pv 1) pe_int (fun _ _ => rfl)) pe_str (nomark _)) (pss_one (ps_ret (pe_meth (pv 0) c_Search mX_Search_stand GX_Search_stand (hr.mono (by first | decide | omega)) bX_Search_stand .nil passE (pa_cons (pe_ix (w_ixT (K' := K) rfl) (pv 1) pe_int (fun _ _ => rfl)) pa_nil)))) pss_nil)
      (pss_one (ps_ret (pe_ifExp (pt_cmpR op_eq (pe_ix (w_ixT (K' := K) rfl) (pv 1) pe_int (fun _ _ => rfl)) pe_str (nomark _)) (pe_meth0 (pv 0) c_Search mX_Search_back GX_Search_back (hr.mono (by first | decide | omega)) bX_Search_back .nil passE) (pe_meth (pv 0) c_Search mX_Search_answer GX_Search_answer (hr.mono (by first | decide | omega)) bX_Search_answer .nil passE (pa_cons (pe_ix (w_ixT (K' := K) rfl) (pv 1) pe_int (fun _ _ => rfl)) pa_nil)))))), ?_⟩)
  case len =>
    rintro M ss C' ⟨p, q, n, hs, xs, ws, wd, d, x, rfl, rfl, hB, hout, rfl⟩ <;> rfl
  rintro M ss C' ⟨p, q, n, hs, xs, ws, wd, d, x, rfl, rfl, hB, hout, rfl⟩ F L σ H D hE hL o
  try dsimp only [cxOf]
  replace o : Ok K F L σ H [.loc (.ref p), .dat (.tuple [.str wd, d])] (srM C_Search n (hs ++ [(xs, ws)]) p q) := o
  have h0 : ∀ {M : Ms}, Ev K (tOp (rIxT K) (tVar 1) (tC (.int 0))) [.loc (.ref p), .dat (.tuple [.str wd, d])] M (.dat (.str wd)) M := fun {M} => ev_ixT (ev_varD rfl) ev_int rfl
  have h1 : ∀ {M : Ms}, Ev K (tOp (rIxT K) (tVar 1) (tC (.int 1))) [.loc (.ref p), .dat (.tuple [.str wd, d])] M (.dat d) M := fun {M} => ev_ixT (ev_varD rfl) ev_int rfl
  have l1 := hB.l1; have l2 := hB.l2; have n1 := hB.n1; have gw := hB.g.w
  simp only at l2 gw
  have hm : ∀ {m : Str}, m ∈ (["waits", "stand", "answer", "back", "stands", "answers", "can_lie"] : List Str) → (srF n q).lookup m = none := fun h => sr_no n q h
  by_cases e0 : wd = sStand
  · have ea := out_err hout (by rw [e0]; exact stand_back)
    unfold aftW at ea
    rw [if_pos e0] at ea
    unfold aftS at ea
    have hX : X_stand ce C_Search (srM C_Search n (hs ++ [(xs, ws)]) p q) [.loc (.ref p), .dat d] (ce x) := by
      split at ea
      · rename_i hwi
        split at ea
        · rename_i hwt
          cases ea
          exact .inr ⟨p, q, n, hs, xs, ws, d, rfl, rfl, hwi, hwt, rfl⟩
        · cases ea
      · rename_i hwi
        cases ea
        exact .inl ⟨p, q, n, hs, xs, ws, d, rfl, rfl, by simpa using hwi, rfl⟩
    refine q_ifR0 (b := true) (et_is (et_test (ev_eqS h0 ev_str)) (decide_eq_true e0)) (fun _ H o => ?_) (fun e => by cases e) o
    exact x_ret fun Q => x_meth (ev_varL rfl) (mem_sr0 (A := [])) (hm (by decide +kernel)) (EvA.cons h1 EvA.nil) _ (List.Sublist.refl _) hX (fun H1 o1 => hE _ o1.fr (o1.mobs fun x hx => hx)) o
  · refine q_ifR0 (b := false) (et_is (et_test (ev_eqS h0 ev_str)) (decide_eq_false e0)) (fun e => by cases e) (fun _ H o => ?_) o
    by_cases eb : wd = sBack
    · unfold outD at hout
      rw [if_pos eb] at hout
      split at hout
      · rename_i hne
        cases hout
        subst hne
        exact x_ret fun Q => x_if (b := true) (et_is (et_test (ev_eqS h0 ev_str)) (decide_eq_true eb)) (fun H o => x_meth (ev_varL rfl) (mem_sr0 (A := [])) (hm (by decide +kernel)) EvA.nil _ (List.Sublist.refl _) ⟨p, q, n, (xs, ws), rfl, rfl, rfl⟩ (fun H1 o1 => hE _ o1.fr (o1.mobs fun x hx => hx)) o) o
      · cases hout
    · have ea := out_err hout eb
      unfold aftW at ea
      rw [if_neg e0] at ea
      unfold aftA at ea
      have hX : X_answer ce C_Search (srM C_Search n (hs ++ [(xs, ws)]) p q) [.loc (.ref p), .dat d] (ce x) := by
        split at ea
        · rename_i hwo
          split at ea
          · rename_i hwt
            split at ea
            · rename_i hpl
              cases ea
              obtain ⟨w, rfl⟩ : ∃ w, d = .str w := ⟨_, (isWord_eq hwo).1⟩
              exact .inr (.inr ⟨p, q, n, hs, xs, ws, w, rfl, rfl, (isWord_eq hwo).2, hwt, by omega, by omega, gw, hpl, rfl⟩)
            · cases ea
          · rename_i hwt
            cases ea
            exact .inr (.inl ⟨p, q, n, hs, xs, ws, d, rfl, rfl, hwo, hwt, rfl⟩)
        · rename_i hwo
          cases ea
          exact .inl ⟨p, q, n, hs, xs, ws, d, rfl, rfl, by simpa using hwo, rfl⟩
      exact x_ret fun Q => x_if (b := false) (et_is (et_test (ev_eqS h0 ev_str)) (decide_eq_false eb)) (fun H o => x_meth (ev_varL rfl) (mem_sr0 (A := [])) (hm (by decide +kernel)) (EvA.cons h1 EvA.nil) _ (List.Sublist.refl _) hX (fun H1 o1 => hE _ o1.fr (o1.mobs fun x hx => hx)) o) o

theorem okX_law_do (B : Bl mg) {ce : CE} (YE : ErrsC K mg ce) (T : Raw K mg "_law_do" "_law_do" s_law_do) {C_Search : Addr} (Y_Search : SearchC K mg C_Search) (hX_Search_stand : HasMX P w K mg base C_Search 13 "stand" ["self", "place"] (spE K (X_stand ce C_Search))) (hX_Search_back : HasMX P w K mg base C_Search 13 "back" ["self"] (spE K (X_back ce C_Search))) (hX_Search_answer : HasMX P w K mg base C_Search 13 "answer" ["self", "word"] (spE K (X_answer ce C_Search))) : HasX P w K mg base 14 "_law_do" ["search", "deed"] (spE K (X_law_do ce C_Search)) := by
  obtain ⟨f, fd, Fn, hg⟩ := T
  exact ⟨f, fd, ((okX_law_do_A Fn B YE Y_Search hX_Search_stand hX_Search_back hX_Search_answer).mono (by decide)), hg, Fn.kp, Fn.binds fun _ _ _ _ _ _ us hl => match us, hl with | [_, _], _ => rfl⟩
/-! what is told of a refusal -/
def nmL : List Str := ["NoLength", "NoPlace", "NotNow", "NoStands", "NoAnswers", "NoStretch", "NoAnswer", "Never", "NothingLeft"]
/-- T: TooLong, S: SeekError, es: the classes that are asked for -/
structure RefE (K : PySem.W.Frag) (T S : Addr) (es : List Addr) (D : Addr) (nm : Str) : Prop where
  xc : ExcC K D
  n : PySem.W.exmOne K (.ref D) (.ref T) = some false
  y : PySem.W.exmOne K (.ref D) (.ref S) = some true
  v : PySem.W.kitOne K (.ref D) (.type "ValueError") = some true
  i : ∃ i : Nat, nmL[i]? = some nm ∧ ∀ (j : Nat) (c : Addr), es[j]? = some c → PySem.W.kitOne K (.ref D) (.ref c) = some (decide (i = j))
def R_refused (K : PySem.W.Frag) (T S : Addr) (es : List Addr) (mk : Addr → NdefX.NF) (e : Expr) (R : Ms → List Sl → PyData → Ms → Prop) (X : Ms → List Sl → Addr → Prop) (M : Ms) (ss : List Sl) (r : PyData) (M' : Ms) : Prop :=
  ∃ s1 s2 s3 : Sl, ss = [.pr (φL mk e), s1, s2, s3] ∧ (s1 ≠ .un ∧ s2 ≠ .un ∧ s3 ≠ .un) ∧
    ((∃ v, R M [s1, s2, s3] v M' ∧ ad M' = ad M ∧ r = .list []) ∨ ∃ D nm, X M [s1, s2, s3] D ∧ RefE K T S es D nm ∧ M' = M ∧ r = .list [.str nm, .bool true])
section
variable {K : PySem.W.Frag} {F F' H H' H0 H1 : Hp} {L : List Addr} {σ σ' : L2.St} {ρ ρ' : List Sl} {M M' M0 M1 M2 Mn : Ms} {tr : TA} {s : Sl} {ss : List Sl} {C : Addr} {E : L2.St → XK} {Q : VK} {mk : Addr → NdefX.NF} {e : Expr} {i : Nat} {sp : Sp}
theorem ev_var (h : ρ[i]? = some s) (n : s ≠ .un) : Ev K (tVar i) ρ M s M := fun F L σ H o Q q => by
  obtain ⟨v, h1, h2⟩ := o.get h n
  exact ⟨v, h1, q v H o rfl (hid_le _ _) h2⟩
theorem ev_callLo {R : Ms → List Sl → PyData → Ms → Prop} {r : PyData} (hs : ∀ vs H Q E, spMs K R vs H Q E → sp vs H Q E) (h : ρ[i]? = some (.pr (φL mk e))) (ha : EvA K tr ρ M ss M) (hn : ad Mn = ad M) (hR : R M ss r Mn) : Ev K (tCallL mk e i sp E tr) ρ M (.dat r) Mn := fun F L σ H o Q q => callL h ha o fun vs H1 o1 e1 a1 x1 => by
  have w : (ad M).Nodup → Sw M Mn M Mn := fun _ => ⟨List.Sublist.refl _, hn, fun x hx => .inl hx⟩
  refine hs _ _ _ _ ⟨L ++ ad M, M, ss, r, Mn, fun a ha => o1.there ha, fun a ha => List.mem_append_right _ ha, o1.nd, x1, fun x hx => o1.ob x hx, hR, hn, fun v H2 s2 hm hv => ?_⟩
  obtain ⟨o2, s3⟩ := swap_ok o1 w s2 hm hn
  exact q v H2 o2 hn (chain2 e1 a1 s3) hv
theorem x_callLo {R : Ms → List Sl → Addr → Prop} (hs : ∀ vs H Q E, spE K R vs H Q E → sp vs H Q E) (h : ρ[i]? = some (.pr (φL mk e))) (ha : EvA K tr ρ M ss M) (hR : R M ss C) (hE : ∀ H1, Ok K F L σ H1 ρ M → E σ (.ref C) none H1) (o : Ok K F L σ H ρ M) : tCallL mk e i sp E tr σ H Q := callL h ha o fun vs H1 o1 e1 a1 x1 => hs _ _ _ _ (x_sp o1 M (List.Sublist.refl _) x1 hR hE)
end
theorem given_one {i : Nat} {nm : Str} (h : nmL[i]? = some nm) : given 9 (fun k => decide (i = k)) (fun k => PyData.str (nmL.getD k Str.empty)) = [.str nm] := by
  have hi : i < 9 := (List.getElem?_eq_some_iff.mp h).1
  have c : i = 0 ∨ i = 1 ∨ i = 2 ∨ i = 3 ∨ i = 4 ∨ i = 5 ∨ i = 6 ∨ i = 7 ∨ i = 8 := by omega
  have e : nmL.getD i Str.empty = nm := by rw [List.getD_eq_getElem?_getD, h]; rfl
  rw [← e]
  rcases c with c | c | c | c | c | c | c | c | c <;> subst c <;> rfl

abbrev s_law_refused : Stmt := topS 33
theorem sc_law_refused : FnScope ["call", "one", "two", "three", "kin", "e", "words", "word", "there"] ["call", "one", "two", "three"] (defScope s_law_refused) := ⟨rfl, rfl, rfl, by decide +kernel, rfl, by decide +kernel, by decide +kernel⟩
theorem ok_law_refused (T : Raw K mg "_law_refused" "_law_refused" s_law_refused) (B : Bl mg) {C_TooLong C_SeekError C_NoLength C_NoPlace C_NotNow C_NoStands C_NoAnswers C_NoStretch C_NoAnswer C_Never C_NothingLeft : Addr}
    (g_TooLong : mg "TooLong" = some (.ref C_TooLong)) (g_SeekError : mg "SeekError" = some (.ref C_SeekError)) (g_NoLength : mg "NoLength" = some (.ref C_NoLength)) (g_NoPlace : mg "NoPlace" = some (.ref C_NoPlace)) (g_NotNow : mg "NotNow" = some (.ref C_NotNow)) (g_NoStands : mg "NoStands" = some (.ref C_NoStands)) (g_NoAnswers : mg "NoAnswers" = some (.ref C_NoAnswers)) (g_NoStretch : mg "NoStretch" = some (.ref C_NoStretch)) (g_NoAnswer : mg "NoAnswer" = some (.ref C_NoAnswer)) (g_Never : mg "Never" = some (.ref C_Never)) (g_NothingLeft : mg "NothingLeft" = some (.ref C_NothingLeft))
    {mk : Addr → NdefX.NF} {e : Expr} {lps : List Str} {R : Ms → List Sl → PyData → Ms → Prop} {X : Ms → List Sl → Addr → Prop} (Lc : ∀ f c', LOk P w K mg base (L2N.CX P w) 20 f (mk c') e lps (fun vs H Q E => spMs K R vs H Q E ∨ spE K X vs H Q E)) :
    Has P w K mg base 21 "_law_refused" ["call", "one", "two", "three"] (spMs K (R_refused K C_TooLong C_SeekError [C_NoLength, C_NoPlace, C_NotNow, C_NoStands, C_NoAnswers, C_NoStretch, C_NoAnswer, C_Never, C_NothingLeft] mk e R X)) := by
  obtain ⟨f, fd, Fn, hg⟩ := T
  refine ⟨f, fd, okMs Fn sc_law_refused ?len (fun cdv A outer s H E hr => ⟨_, (pss_cons (ps_set (i := 4) sc_law_refused.nd rfl (by first | exact .inl rfl | exact .inr rfl) (pe_lst pa_nil))
      (pss_cons (L2N.ps_try_manyN (i := 5) rfl rfl sc_law_refused.nd rfl (by rfl) takes_never (fun W pn xe tk _ => (pss_one (ps_expr (pe_calll (i := 0) Lc hr (by first | decide | omega) (fun σ => L2N.passAt tk σ) rfl (by first | exact .inl rfl | exact .inr rfl) (pa_cons (pv 1) (pa_cons (pv 2) (pa_cons (pv 3) pa_nil))))))) (L2N.HdsN.cons ⟨by rfl, by decide, .inl g_TooLong⟩ (fun _ _ _ _ _ _ _ => pss_never) (L2N.HdsN.cons ⟨by rfl, by decide, .inl g_SeekError⟩ (fun a oe cls d pn hz hf => suite_ex hz fun D xc hz => (pss_cons (ps_set (i := 6) sc_law_refused.nd rfl (by first | exact .inl rfl | exact .inr rfl) (pe_lst (pa_cons (pe_tup (pa_cons pe_str (pa_cons (pe_callB (w_isE (K' := K) rfl xc hz hf) (by rfl) B.isinstance_ (by decide +kernel) (pa_cons (pv 5) (pa_cons (pe_glob (by rfl) g_NoLength (show RelV (.ref C_NoLength) _ from rfl)) pa_nil))) pa_nil))) (pa_cons (pe_tup (pa_cons pe_str (pa_cons (pe_callB (w_isE (K' := K) rfl xc hz hf) (by rfl) B.isinstance_ (by decide +kernel) (pa_cons (pv 5) (pa_cons (pe_glob (by rfl) g_NoPlace (show RelV (.ref C_NoPlace) _ from rfl)) pa_nil))) pa_nil))) pa_nil))))
      (pss_cons (ps_set (i := 6) sc_law_refused.nd rfl (by first | exact .inl rfl | exact .inr rfl) (pe_op o_cat (pv 6) (pe_lst (pa_cons (pe_tup (pa_cons pe_str (pa_cons (pe_callB (w_isE (K' := K) rfl xc hz hf) (by rfl) B.isinstance_ (by decide +kernel) (pa_cons (pv 5) (pa_cons (pe_glob (by rfl) g_NotNow (show RelV (.ref C_NotNow) _ from rfl)) pa_nil))) pa_nil))) pa_nil))))
      (pss_cons (ps_set (i := 6) sc_law_refused.nd rfl (by first | exact .inl rfl | exact .inr rfl) (pe_op o_cat (pv 6) (pe_lst (pa_cons (pe_tup (pa_cons pe_str (pa_cons (pe_callB (w_isE (K' := K) rfl xc hz hf) (by rfl) B.isinstance_ (by decide +kernel) (pa_cons (pv 5) (pa_cons (pe_glob (by rfl) g_NoStands (show RelV (.ref C_NoStands) _ from rfl)) pa_nil))) pa_nil))) (pa_cons (pe_tup (pa_cons pe_str (pa_cons (pe_callB (w_isE (K' := K) rfl xc hz hf) (by rfl) B.isinstance_ (by decide +kernel) (pa_cons (pv 5) (pa_cons (pe_glob (by rfl) g_NoAnswers (show RelV (.ref C_NoAnswers) _ from rfl)) pa_nil))) pa_nil))) pa_nil)))))
      (pss_cons (ps_set (i := 6) sc_law_refused.nd rfl (by first | exact .inl rfl | exact .inr rfl) (pe_op o_cat (pv 6) (pe_lst (pa_cons (pe_tup (pa_cons pe_str (pa_cons (pe_callB (w_isE (K' := K) rfl xc hz hf) (by rfl) B.isinstance_ (by decide +kernel) (pa_cons (pv 5) (pa_cons (pe_glob (by rfl) g_NoStretch (show RelV (.ref C_NoStretch) _ from rfl)) pa_nil))) pa_nil))) (pa_cons (pe_tup (pa_cons pe_str (pa_cons (pe_callB (w_isE (K' := K) rfl xc hz hf) (by rfl) B.isinstance_ (by decide +kernel) (pa_cons (pv 5) (pa_cons (pe_glob (by rfl) g_NoAnswer (show RelV (.ref C_NoAnswer) _ from rfl)) pa_nil))) pa_nil))) pa_nil)))))
      (pss_cons (ps_set (i := 6) sc_law_refused.nd rfl (by first | exact .inl rfl | exact .inr rfl) (pe_op o_cat (pv 6) (pe_lst (pa_cons (pe_tup (pa_cons pe_str (pa_cons (pe_callB (w_isE (K' := K) rfl xc hz hf) (by rfl) B.isinstance_ (by decide +kernel) (pa_cons (pv 5) (pa_cons (pe_glob (by rfl) g_Never (show RelV (.ref C_Never) _ from rfl)) pa_nil))) pa_nil))) (pa_cons (pe_tup (pa_cons pe_str (pa_cons (pe_callB (w_isE (K' := K) rfl xc hz hf) (by rfl) B.isinstance_ (by decide +kernel) (pa_cons (pv 5) (pa_cons (pe_glob (by rfl) g_NothingLeft (show RelV (.ref C_NothingLeft) _ from rfl)) pa_nil))) pa_nil))) pa_nil)))))
      (pss_one (ps_set (i := 4) sc_law_refused.nd rfl (by first | exact .inl rfl | exact .inr rfl) (pe_op o_cat (pe_lcX (hotK_suite hz hf) (own := [("word", 7), ("there", 8)]) (g := gTup K 2 (gCons (gName 7) (gCons (gName 8) gNil))) sc_law_refused.nd (wi_listX (K' := K) rfl (pv 6)) (blkOk_by (own := [("word", 7), ("there", 8)]) (N := ["call", "one", "two", "three", "kin", "e", "words", "word", "there"]) (sc := defScope s_law_refused) (by decide +kernel)) (fun _ _ _ _ _ hot => (pg_tupX hot (pgs_cons (pg_name (i := 7) sc_law_refused.nd rfl (by first | exact .inl rfl | exact .inr rfl)) (pgs_cons (pg_name (i := 8) sc_law_refused.nd rfl (by first | exact .inl rfl | exact .inr rfl)) pgs_nil)))) (fun _ _ _ _ _ => (pts_one (pt_val (pv 8)))) (fun _ _ _ _ _ => (pv 7))) (pe_lst (pa_cons (pe_callB (w_isE (K' := K) rfl xc hz hf) (by rfl) B.isinstance_ (by decide +kernel) (pa_cons (pv 5) (pa_cons (pe_bltn (by rfl) B.ValueError_ (by decide +kernel) (show RelV (.ty "ValueError") _ from rfl)) pa_nil))) pa_nil))))))))))) L2N.HdsN.nil)))
      (pss_one (ps_ret (pv 4))))), ?_⟩), hg, Fn.kp, Fn.binds fun _ _ _ _ _ _ us hl => match us, hl with | [_, _, _, _], _ => rfl⟩
  case len =>
    rintro M ss r M' ⟨s1, s2, s3, rfl, _⟩; rfl
  rintro M ss r M' ⟨s1, s2, s3, rfl, ⟨n1, n2, n3⟩, h⟩ F L σ H D hrt hnx hL o
  try dsimp only [cxOf]
  replace o : Ok K F L σ H [.pr (φL mk e), s1, s2, s3, .un, .un, .un, .un, .un] M := o
  refine q_asg (EvN.ev (evn_lst (ds := []) EvA.nil)) (fun σ H o => ?_) o
  replace o : Ok K F L σ H [.pr (φL mk e), s1, s2, s3, .dat (.list []), .un, .un, .un, .un] M := o
  have hargs : EvA K (tCons (tVar 1) (tCons (tVar 2) (tCons (tVar 3) tNil))) [.pr (φL mk e), s1, s2, s3, .dat (.list []), .un, .un, .un, .un] M [s1, s2, s3] M := EvA.cons (ev_var rfl n1) (EvA.cons (ev_var rfl n2) (EvA.cons (ev_var rfl n3) EvA.nil))
  rcases h with ⟨v, hR, ha, rfl⟩ | ⟨Dc, nm, hX, hE, rfl, rfl⟩
  · refine s_drop (D := { D with nx := _ }) (ev_callLo (fun _ _ _ _ h => .inl h) rfl hargs ha hR) (fun σ H o => ?_) o
    exact s_retMs (Mn := M') (M1 := M') (ev_varD rfl) (fun x hx => hx) hrt o
  · refine x_drop (D := { D with nx := _ }) (fun Q => x_callLo (fun _ _ _ _ h => .inr h) rfl hargs hX (fun H1 o1 => ?_) o)
    refine ⟨false, hE.n, (fun z => by cases z), fun _ => ⟨true, hE.y, fun _ a ha => ⟨Dc, rfl, rfl, hE.xc, ?_⟩, fun z => by cases z⟩⟩
    obtain ⟨i, hi, row⟩ := hE.i
    have k0 := row 0 _ rfl; have k1 := row 1 _ rfl; have k2 := row 2 _ rfl; have k3 := row 3 _ rfl; have k4 := row 4 _ rfl; have k5 := row 5 _ rfl; have k6 := row 6 _ rfl; have k7 := row 7 _ rfl; have k8 := row 8 _ rfl
    have o2 : Ok K F L (σ.set 5 (some (.ref a))) H1 [.pr (φL mk e), s1, s2, s3, .dat (.list []), .loc (.ref a), .un, .un, .un] M' := Ok.set (s := .loc (.ref a)) o1 rfl
    have one : ∀ {ρ : List Sl} {x : Str} {c : Addr} {b : Bool}, ρ[5]? = some (.loc (.ref a)) → PySem.W.kitOne K (.ref Dc) (.ref c) = some b → Ev K (tTup (tCons (tC (.str x)) (tCons (tCB (rIsE K Dc a) (tCons (tVar 5) (tCons (tC (.ref c)) tNil))) tNil))) ρ M' (.dat (.tuple [.str x, .bool b])) M' := fun h5 hk => ev_tupD (ds := [.str _, .bool _]) (ed_cons ev_str (ed_cons (ev_isE h5 hk) ed_nil)) (by simp)
    refine q_asg (EvN.ev (evn_lst (ds := [.tuple [.str "NoLength", .bool (decide (i = 0))], .tuple [.str "NoPlace", .bool (decide (i = 1))]]) (EvA.cons (one rfl k0) (EvA.cons (one rfl k1) EvA.nil)))) (fun σ H o => ?_) o2
    refine q_asg (EvN.ev (evn_cat (ev_varD rfl) (EvN.ev (evn_lst (ds := [.tuple [.str "NotNow", .bool (decide (i = 2))]]) (EvA.cons (one rfl k2) EvA.nil))) (by simp))) (fun σ H o => ?_) o
    refine q_asg (EvN.ev (evn_cat (ev_varD rfl) (EvN.ev (evn_lst (ds := [.tuple [.str "NoStands", .bool (decide (i = 3))], .tuple [.str "NoAnswers", .bool (decide (i = 4))]]) (EvA.cons (one rfl k3) (EvA.cons (one rfl k4) EvA.nil)))) (by simp))) (fun σ H o => ?_) o
    refine q_asg (EvN.ev (evn_cat (ev_varD rfl) (EvN.ev (evn_lst (ds := [.tuple [.str "NoStretch", .bool (decide (i = 5))], .tuple [.str "NoAnswer", .bool (decide (i = 6))]]) (EvA.cons (one rfl k5) (EvA.cons (one rfl k6) EvA.nil)))) (by simp))) (fun σ H o => ?_) o
    refine q_asg (EvN.ev (evn_cat (ev_varD rfl) (EvN.ev (evn_lst (ds := [.tuple [.str "Never", .bool (decide (i = 7))], .tuple [.str "NothingLeft", .bool (decide (i = 8))]]) (EvA.cons (one rfl k7) (EvA.cons (one rfl k8) EvA.nil)))) (by simp))) (fun σ H o => ?_) o
    replace o : Ok K F L σ H [.pr (φL mk e), s1, s2, s3, .dat (.list []), .loc (.ref a), .dat (.list ((List.range 9).map fun k => .tuple [.str (nmL.getD k Str.empty), .bool (decide (i = k))])), .un, .un] M' := o
    refine s_asg (s := .dat (.list [.str nm, .bool true])) (M1 := M') (ev_isD (EvN.ev (evn_cat (ds := [.str nm]) (es := [.bool true]) (EvN.ev (evn_is (evn_lcF (n := 9) (item := fun k => .tuple [.str (nmL.getD k Str.empty), .bool (decide (i = k))]) (fun k => decide (i = k)) (fun k => .str (nmL.getD k Str.empty)) ?ei (by wtm_at "eg") (by simp) (fun k hk => ?et) (fun k hk => ?el) (by omega)) (given_one hi))) (EvN.ev (evn_lst (ds := [.bool true]) (EvA.cons (ev_isET rfl hE.v) EvA.nil))) (by simp))) rfl) (fun σ H o => ?_) o
    case ei =>
      have h := ei_list (K := K) (ρ := [.pr (φL mk e), s1, s2, s3, .dat (.list []), .loc (.ref a), .dat (.list ((List.range 9).map fun k => .tuple [.str (nmL.getD k Str.empty), .bool (decide (i = k))])), .un, .un]) (M := M') (M1 := M') (te := tVar 6) (ev_varD rfl)
      rw [List.length_map, List.length_range] at h
      exact h.congr fun k hk => by rw [List.getD_eq_getElem?_getD, List.getElem?_map, List.getElem?_range hk]; rfl
    case et => exact et_test (ev_varD rfl)
    case el => exact ev_varD rfl
    have o3 := o.unset (i := 5)
    exact s_retMs (Mn := M') (M1 := M') (ev_varD rfl) (fun x hx => hx) hrt o3
/-! the plain part: what stays true of the states -/
structure JS (i : Nat) (fu : Hst) : Prop where
  len : fu.length ≤ i + 1
  hd : fu[0]? = some ([], [])
  all : ∀ h ∈ fu, Gd h ∧ h.1.length ≤ i
theorem JS.zero : JS 0 [([], [])] := ⟨by simp, rfl, fun h hh => by
  rw [List.mem_singleton.mp hh]
  exact ⟨⟨by simp, by simp, fun w hw => (List.not_mem_nil hw).elim⟩, by simp⟩⟩
theorem JS.mono {i : Nat} {fu : Hst} (h : JS i fu) : JS (i + 1) fu := ⟨by have := h.len; omega, h.hd, fun x hx => ⟨(h.all x hx).1, by have := (h.all x hx).2; omega⟩⟩
theorem JS.step {n i : Nat} {hs fu : Hst} {h : St1} {wd : Str} {d : PyData} (j : JS i (hs ++ [h])) (e : outD n hs h wd d = .ok fu) : JS (i + 1) fu := by
  by_cases hb : wd = sBack
  · unfold outD at e
    rw [if_pos hb] at e
    split at e
    · cases e
    · rename_i hne
      cases e
      have hl := List.length_pos_iff.mpr hne
      refine ⟨by have := j.len; simp at this; omega, ?_, fun x hx => ⟨(j.all x (List.mem_append_left _ hx)).1, by have := (j.all x (List.mem_append_left _ hx)).2; omega⟩⟩
      rw [← j.hd, List.getElem?_append_left hl]
  · obtain ⟨h', e1, rfl⟩ := out_aft e hb
    have hm : h ∈ hs ++ [h] := List.mem_append_right _ List.mem_cons_self
    have g := Gd.aft (j.all h hm).1 e1
    refine ⟨by have := j.len; simp at this ⊢; omega, ?_, fun x hx => ?_⟩
    · rw [← j.hd, List.getElem?_append_left (by simp)]
    · rcases List.mem_append.mp hx with z | z
      · exact ⟨(j.all x z).1, by have := (j.all x z).2; omega⟩
      · rw [List.mem_singleton.mp z]
        exact ⟨g.1, by have := g.2; have := (j.all h hm).2; omega⟩
theorem JS.snoc {i : Nat} {fu : Hst} (h : JS i fu) : ∃ hs xs ws, fu = hs ++ [(xs, ws)] := by
  rcases List.eq_nil_or_concat fu with e | ⟨hs, ⟨xs, ws⟩, e⟩
  · have := h.hd
    rw [e] at this; cases this
  · exact ⟨hs, xs, ws, by rw [e, List.concat_eq_append]⟩
def sAns : Str := "answer"
/-- what is due, what came -/
def dueO : Except Er Hst → PyData
  | .error x => .list [.str x.nm, .bool true]
  | .ok fu => stD (fu.getLastD ([], []))
def kinO : Except Er Hst → PyData
  | .error x => .list [.str x.nm, .bool true]
  | .ok _ => .list []
def newO (fu : Hst) : Except Er Hst → Hst
  | .error _ => fu
  | .ok fu' => fu'
theorem nm_ok : ∀ x : Er, PyData.strOk x.nm = true := fun x => by cases x <;> decide +kernel
theorem sh_err (x : Er) : Sh 1 (.list [.str x.nm, .bool true]) := sh_list fun d hd => by
  rcases List.mem_cons.mp hd with z | z
  · rw [z]; exact sh_str (nm_ok x)
  · rw [List.mem_singleton.mp z]; exact sh_bool
theorem sh_nil0 : Sh 1 (.list []) := sh_list fun d hd => (List.not_mem_nil hd).elim
theorem sh_kinO (r : Except Er Hst) : Sh 1 (kinO r) := by
  cases r with
  | error x => exact sh_err x
  | ok fu => exact sh_nil0
theorem eqv_err (x : Er) : PyData.eqv (.list [.str x.nm, .bool true]) (.list [.str x.nm, .bool true]) = true := by cases x <;> decide +kernel
theorem due_aft {n : Nat} {hs : Hst} {h : St1} {wd : Str} {d : PyData} (hb : wd ≠ sBack) : afD (aftW n h wd d) = dueO (outD n hs h wd d) := by
  unfold outD
  rw [if_neg hb]
  cases aftW n h wd d with
  | error x => rfl
  | ok h' => simp [afD, dueO]
/-- the lambda of the law -/
def forB : Stmt → List Stmt
  | .For _ _ b _ _ => b
  | _ => []
def asgV : Stmt → Expr
  | .Assign _ v _ => v
  | _ => .Name "x" ⟨0, 0, 0, 0⟩
def arg0 : Expr → Expr
  | .Call _ as _ _ => as.getD 0 (.Name "x" ⟨0, 0, 0, 0⟩)
  | _ => .Name "x" ⟨0, 0, 0, 0⟩
def lamB : Expr → Expr
  | .Lambda _ b _ _ => b
  | e => e
def lamS (d : Scope) : Expr → Scope
  | .Lambda _ _ s _ => s
  | _ => d
def lamP (d : Arguments) : Expr → Arguments
  | .Lambda p _ _ _ => p
  | _ => d
abbrev lamQ : Str := (("law" : Str) ++ ".<locals>.") ++ "<lambda>"
abbrev nmT : Nat → Nat → Str := fun _ _ => lamQ
section
variable {K : PySem.W.Frag} {F : Hp} {L : List Addr} {σ : L2.St} {H : Hp} {ρ : List Sl} {M : Ms} {tt : TT} {tu tw tv : TS} {D : Ends}
theorem q_ifJ2 {b : Bool} (J : List Sl → Ms → Prop) (h : EvT K tt ρ M b M) (k : ∀ ρ' M', J ρ' M' → ∀ σ H, Ok K F L σ H ρ' M' → tv D σ H) (h1 : b = true → (∀ ρ' M', J ρ' M' → ∀ σ H, Ok K F L σ H ρ' M' → tv D σ H) → ∀ H, Ok K F L σ H ρ M → tSeq tu tv D σ H) (h2 : b = false → (∀ ρ' M', J ρ' M' → ∀ σ H, Ok K F L σ H ρ' M' → tv D σ H) → ∀ H, Ok K F L σ H ρ M → tSeq tw tv D σ H) (o : Ok K F L σ H ρ M) : tSeq (tIfS tt tu tw) tv D σ H :=
  q_if0 h (fun e H o => h1 e k H o) (fun e H o => h2 e k H o) o
end
def RL (C : Addr) (M : Ms) (ss : List Sl) (r : PyData) (M' : Ms) : Prop := ∃ s1 s2 s3, ss = [s1, s2, s3] ∧ (s1 ≠ .un ∧ s2 ≠ .un) ∧ R_law_do C M [s1, s2] r M'
def XL (ce : CE) (C : Addr) (M : Ms) (ss : List Sl) (D : Addr) : Prop := ∃ s1 s2 s3, ss = [s1, s2, s3] ∧ (s1 ≠ .un ∧ s2 ≠ .un) ∧ X_law_do ce C M [s1, s2] D
theorem kin_due (r : Except Er Hst) : (if isD (dueO r) "list" = true then dueO r else .list []) = kinO r := by
  cases r with
  | error x => rfl
  | ok fu => rfl
theorem eqv_kin (r : Except Er Hst) : PyData.eqv (kinO r) (kinO r) = true := by
  cases r with
  | error x => exact eqv_err x
  | ok fu => rfl
def isOk : Except Er Hst → Bool
  | .error _ => false
  | .ok _ => true
theorem eqv_kin0 (r : Except Er Hst) : PyData.eqv (kinO r) (.list []) = isOk r := by
  cases r with
  | error x => rfl
  | ok fu => rfl
theorem cut_back (hs : Hst) (h : St1) : cutD (pstD (hs ++ [h])) none (some (-1)) = pstD hs := by
  have e : (pstD (hs ++ [h])).length = hs.length + 1 := by rw [List.length_map, List.length_append]; rfl
  unfold cutD
  rw [e]
  have h1 : HT.sIx (hs.length + 1) (hs.length + 1) (some (-1)) = hs.length := by
    unfold HT.sIx
    simp
    omega
  have h0 : HT.sIx (hs.length + 1) 0 none = 0 := rfl
  rw [h1, h0, List.drop_zero, Nat.sub_zero, pstD_snoc, List.take_left' (by rw [List.length_map])]
theorem at_two (hs : Hst) (h1 h : St1) : atI (pstD (hs ++ [h1] ++ [h])) (-2) = some (stD h1) := by
  rw [pstD_snoc, pstD_snoc]
  have e : (pstD hs ++ [stD h1] ++ [stD h]).length = hs.length + 2 := by simp
  unfold atI ixN
  rw [e, if_neg (by decide), if_pos (by omega)]
  show (pstD hs ++ [stD h1] ++ [stD h])[((-2 : Int) + (hs.length + 2 : Nat)).toNat]? = _
  rw [show ((-2 : Int) + (hs.length + 2 : Nat)).toNat = hs.length by omega, List.append_assoc, List.getElem?_append_right (by simp)]
  simp
section
variable {K : PySem.W.Frag} {ρ : List Sl} {p : Addr} {dr : List Int} {pos : Int} {Mr : Ms} {b : Nat} {E : XK}
theorem x_word (hρ : ρ[b]? = some (.loc (.ref p))) (hd : 0 < dr.length) (h0 : 0 ≤ pos) :
    ∃ wd c, (wd = sStand ∨ wd = sAns ∨ wd = sBack) ∧ 0 ≤ c ∧ Ev K (tOp (rIxL K) (tLst (tCons (tC (.str "stand")) (tCons (tC (.str "answer")) (tCons (tC (.str "back")) tNil)))) (tOp (rIxL K) (tLst (tCons (tC (.int 0)) (tCons (tC (.int 0)) (tCons (tC (.int 0)) (tCons (tC (.int 1)) (tCons (tC (.int 1)) (tCons (tC (.int 1)) (tCons (tC (.int 1)) (tCons (tC (.int 2)) tNil)))))))))
      (tCall (spM K R_law_take) [] E (tCons (tVar b) (tCons (tC (.int 8)) tNil))))) ρ ((p, bg dr pos) :: Mr) (.dat (.str wd)) ((p, bg dr c) :: Mr) := by
  obtain ⟨t, c, ht, hc, e⟩ := x_take (K := K) (ρ := ρ) (E := E) (tb := tC (.int 8)) (Mr := Mr) (b := b) hρ ev_int hd h0 (by decide : (0 : Int) < 8)
  have hv : ([0, 0, 0, 1, 1, 1, 1, 2] : List Int).getD t.toNat 0 = 0 ∨ ([0, 0, 0, 1, 1, 1, 1, 2] : List Int).getD t.toNat 0 = 1 ∨ ([0, 0, 0, 1, 1, 1, 1, 2] : List Int).getD t.toNat 0 = 2 := by
    have : t = 0 ∨ t = 1 ∨ t = 2 ∨ t = 3 ∨ t = 4 ∨ t = 5 ∨ t = 6 ∨ t = 7 := by omega
    rcases this with h | h | h | h | h | h | h | h <;> subst h <;> decide
  refine ⟨[sStand, sAns, sBack].getD (([0, 0, 0, 1, 1, 1, 1, 2] : List Int).getD t.toNat 0).toNat Str.empty, c, ?_, hc, ev_ixS (ns := [sStand, sAns, sBack]) (EvN.ev (evn_lst (ds := [.str sStand, .str sAns, .str sBack]) (EvA.cons ev_str (EvA.cons ev_str (EvA.cons ev_str EvA.nil)))))
    (ev_ixI (ns := [0, 0, 0, 1, 1, 1, 1, 2]) (EvN.ev (evn_lst (ds := [.int 0, .int 0, .int 0, .int 1, .int 1, .int 1, .int 1, .int 2]) (EvA.cons ev_int (EvA.cons ev_int (EvA.cons ev_int (EvA.cons ev_int (EvA.cons ev_int (EvA.cons ev_int (EvA.cons ev_int (EvA.cons ev_int EvA.nil)))))))))) e ht.1 (by exact ht.2)) (by omega) (by show _ < ((3 : Nat) : Int); omega)⟩
  rcases hv with h | h | h <;> rw [h]
  · exact .inl rfl
  · exact .inr (.inl rfl)
  · exact .inr (.inr rfl)
end
section
variable {K : PySem.W.Frag} {C p q p' q' : Addr} {n n' : Nat} {hs hs' : Hst} {ρ : List Sl} {A B M : Ms} {ta tb : TE} {E : XK} {xs xs' : List Int} {ws ws' : List Str}
theorem evn_kStandsN (ha : Ev K ta ρ (A ++ srM C n (hs ++ [(xs, ws)]) p q ++ B) (.loc (.ref p)) (A ++ srM C n (hs ++ [(xs, ws)]) p q ++ B)) :
    EvN K (tMeth C "stands" (spMsN K (R_sStandsN C)) [] E ta tNil) ρ (A ++ srM C n (hs ++ [(xs, ws)]) p q ++ B) (xs.map PyData.int) (A ++ srM C n (hs ++ [(xs, ws)]) p q ++ B) :=
  evn_methMsN ha mem_srB0 (sr_no n q (by decide +kernel)) EvA.nil (srM C n (hs ++ [(xs, ws)]) p q) subB ⟨p, q, n, hs, xs, ws, rfl, rfl, rfl, rfl⟩
theorem evn_kAnswersN (ha : Ev K ta ρ (A ++ srM C n (hs ++ [(xs, ws)]) p q ++ B) (.loc (.ref p)) (A ++ srM C n (hs ++ [(xs, ws)]) p q ++ B)) :
    EvN K (tMeth C "answers" (spMsN K (R_sAnswersN C)) [] E ta tNil) ρ (A ++ srM C n (hs ++ [(xs, ws)]) p q ++ B) (ws.map PyData.str) (A ++ srM C n (hs ++ [(xs, ws)]) p q ++ B) :=
  evn_methMsN ha mem_srB0 (sr_no n q (by decide +kernel)) EvA.nil (srM C n (hs ++ [(xs, ws)]) p q) subB ⟨p, q, n, hs, xs, ws, rfl, rfl, rfl, rfl⟩
theorem ev_kLenB (ha : Ev K ta ρ (A ++ srM C n (hs ++ [(xs, ws)]) p q ++ B) (.loc (.ref p)) (A ++ srM C n (hs ++ [(xs, ws)]) p q ++ B)) (hl : xs.length < 1000) :
    Ev K (tCB (rLenOwn C (spMs K (R_sLen C)) E) (tCons ta tNil)) ρ (A ++ srM C n (hs ++ [(xs, ws)]) p q ++ B) (.dat (.int (xs.length : Nat))) (A ++ srM C n (hs ++ [(xs, ws)]) p q ++ B) :=
  ev_lenOwn ha mem_srB0 (srM C n (hs ++ [(xs, ws)]) p q) subB ⟨p, q, n, hs, xs, ws, rfl, rfl, rfl, rfl⟩ (by omega)
theorem ev_kWaits (ha : Ev K ta ρ (A ++ srM C n (hs ++ [(xs, ws)]) p q ++ B) (.loc (.ref p)) (A ++ srM C n (hs ++ [(xs, ws)]) p q ++ B)) :
    Ev K (tMeth C "waits" (spMs K (R_waits C)) [] E ta tNil) ρ (A ++ srM C n (hs ++ [(xs, ws)]) p q ++ B) (.dat (.bool (decide ((ws.length : Int) < xs.length - 1)))) (A ++ srM C n (hs ++ [(xs, ws)]) p q ++ B) :=
  ev_srB (hs' := hs ++ [(xs, ws)]) (by decide +kernel) ha EvA.nil ⟨p, q, n, hs, xs, ws, rfl, rfl, rfl, rfl⟩
theorem ev_kCanB (ha : Ev K ta ρ (A ++ srM C n (hs ++ [(xs, ws)]) p q ++ B) (.loc (.ref p)) (A ++ srM C n (hs ++ [(xs, ws)]) p q ++ B)) (hn : n ≤ 1000) (hl : xs.length < 1000) (hw : ∀ w ∈ ws, w ∈ wordsL) :
    Ev K (tMeth C "can_lie" (spMs K (R_sCan C)) [] E ta tNil) ρ (A ++ srM C n (hs ++ [(xs, ws)]) p q ++ B) (.dat (dTI (places n (xs.take (ws.length + 1)) ws))) (A ++ srM C n (hs ++ [(xs, ws)]) p q ++ B) :=
  ev_srB (hs' := hs ++ [(xs, ws)]) (by decide +kernel) ha EvA.nil ⟨p, q, n, hs, xs, ws, rfl, rfl, rfl, hn, hl, hw, rfl⟩
theorem ev_kBack {h : St1} (hne : hs ≠ []) (ha : Ev K ta ρ (A ++ srM C n (hs ++ [h]) p q ++ B) (.loc (.ref p)) (A ++ srM C n (hs ++ [h]) p q ++ B)) :
    Ev K (tMeth C "back" (spMs K (R_sBack C)) [] E ta tNil) ρ (A ++ srM C n (hs ++ [h]) p q ++ B) (.dat .none) (A ++ srM C n hs p q ++ B) :=
  ev_srB (hs' := hs) (by decide +kernel) ha EvA.nil ⟨p, q, n, hs, h, hne, rfl, rfl, rfl, rfl⟩
theorem ev_kEq (Is : IsC K C) (hw : ∀ w ∈ ws, PyData.strOk w = true) (hw' : ∀ w ∈ ws', PyData.strOk w = true) (ha : Ev K ta ρ (A ++ srM C n (hs ++ [(xs, ws)]) p q ++ srM C n' (hs' ++ [(xs', ws')]) p' q') (.loc (.ref p)) (A ++ srM C n (hs ++ [(xs, ws)]) p q ++ srM C n' (hs' ++ [(xs', ws')]) p' q'))
    (hb : Ev K tb ρ (A ++ srM C n (hs ++ [(xs, ws)]) p q ++ srM C n' (hs' ++ [(xs', ws')]) p' q') (.loc (.ref p')) (A ++ srM C n (hs ++ [(xs, ws)]) p q ++ srM C n' (hs' ++ [(xs', ws')]) p' q')) :
    Ev K (tOp (rEqOwn K C (spMs K (R_sEq C)) E) ta tb) ρ (A ++ srM C n (hs ++ [(xs, ws)]) p q ++ srM C n' (hs' ++ [(xs', ws')]) p' q') (.dat (.bool (decide (n = n') && (decide (xs = xs') && decide (ws = ws'))))) (A ++ srM C n (hs ++ [(xs, ws)]) p q ++ srM C n' (hs' ++ [(xs', ws')]) p' q') :=
  ev_eqOwn Is.sl ha mem_srB0 hb (.ins mem_sr0) (srM C n (hs ++ [(xs, ws)]) p q ++ srM C n' (hs' ++ [(xs', ws')]) p' q') (by rw [List.append_assoc]; exact List.sublist_append_right ..) ⟨p, q, n, hs, xs, ws, hw, rfl, .inl ⟨p', q', n', hs', xs', ws', hw', rfl, rfl, rfl⟩⟩
theorem ev_kEqL {ds : List PyData} (Is : IsC K C) (hw : ∀ w ∈ ws, PyData.strOk w = true) (ha : Ev K ta ρ (A ++ srM C n (hs ++ [(xs, ws)]) p q ++ B) (.loc (.ref p)) (A ++ srM C n (hs ++ [(xs, ws)]) p q ++ B))
    (hb : Ev K tb ρ (A ++ srM C n (hs ++ [(xs, ws)]) p q ++ B) (.dat (.list ds)) (A ++ srM C n (hs ++ [(xs, ws)]) p q ++ B)) :
    Ev K (tOp (rEqOwn K C (spMs K (R_sEq C)) E) ta tb) ρ (A ++ srM C n (hs ++ [(xs, ws)]) p q ++ B) (.dat (.bool false)) (A ++ srM C n (hs ++ [(xs, ws)]) p q ++ B) :=
  ev_eqOwn Is.sl ha mem_srB0 hb (.lst ds) (srM C n (hs ++ [(xs, ws)]) p q) subB ⟨p, q, n, hs, xs, ws, hw, rfl, .inr ⟨ds, rfl, rfl, rfl⟩⟩
end


abbrev s_law : Stmt := topS 37
theorem sc_law : FnScope ["script", "bag", "length", "hidden", "search", "other", "states", "turn", "stands", "words", "word", "thing", "true", "deed", "due", "kin"] ["script"] (defScope s_law) := ⟨rfl, rfl, rfl, by decide +kernel, rfl, by decide +kernel, by decide +kernel⟩
def law_lam : Expr := arg0 (asgV ((forB ((forB ((defBody s_law).getD 0 (.Pass ⟨0, 0, 0, 0⟩))).getD 3 (.Pass ⟨0, 0, 0, 0⟩))).getD 6 (.Pass ⟨0, 0, 0, 0⟩)))
def mkDo : Addr → NdefX.NF := fun c' => ⟨"<lambda>", lamQ, lamP (defArgs s_law) law_lam, [], lamS (defScope s_law) law_lam, [], c'⟩
theorem lam_scope : NdefX.NScope ["a", "b", "c"] ["a", "b", "c"] [] (lamS (defScope s_law) law_lam) := NdefX.nscope_by (by decide +kernel)
theorem ok_lambda (B : Bl mg) {ce : CE} {C_Search : Addr} (Y_Search : SearchC K mg C_Search) (h_law_do : Has P w K mg base 19 "_law_do" ["search", "deed"] (spMs K (R_law_do C_Search))) (hX_law_do : HasX P w K mg base 19 "_law_do" ["search", "deed"] (spE K (X_law_do ce C_Search))) (f c' : Addr) :
    LOk P w K mg base (L2N.CX P w) 20 f (mkDo c') (lamB law_lam) ["a", "b", "c"] (fun vs H Q E => spMs K (RL C_Search) vs H Q E ∨ spE K (XL ce C_Search) vs H Q E) := by
  obtain ⟨_, _, G_law_do, g_law_do, k_law_do, b_law_do⟩ := h_law_do
  obtain ⟨_, _, GX_law_do, gX_law_do, kX_law_do, bX_law_do⟩ := hX_law_do
  have hb : ∀ (pm ctv : Value) (us : List Value), us.length = ["a", "b", "c"].length → bindArgs (PySem.W.kla_fn (mkDo c').name (mkDo c').qual (mkDo c').params (lamB law_lam) (mkDo c').scope (mkDo c').cl pm (.ref (mkDo c').c) ctv) ⟨us, []⟩ = pure ((["a", "b", "c"] : List Str).zip us) := fun pm ctv us hl => match us, hl with
    | [_, _, _], _ => rfl
  refine lok_or (lokMs lam_scope rfl hb ?len (fun A outer s H E hr => ⟨_, (pe_call G_law_do (hr.mono (by first | decide | omega)) (by rfl) g_law_do k_law_do b_law_do .nil pass0 (pa_cons (pv 0) (pa_cons (pv 1) pa_nil))), ?_⟩)) (lokE lam_scope rfl hb ?lenX (fun A outer s H E hr => ⟨_, (pe_call GX_law_do (hr.mono (by first | decide | omega)) (by rfl) gX_law_do kX_law_do bX_law_do .nil passN (pa_cons (pv 0) (pa_cons (pv 1) pa_nil))), ?_⟩))
  case len =>
    rintro M ss r M' ⟨s1, s2, s3, rfl, _⟩; rfl
  case lenX =>
    rintro M ss C' ⟨s1, s2, s3, rfl, _⟩; rfl
  · rintro M ss r M' ⟨s1, s2, s3, rfl, ⟨n1, n2⟩, hR⟩
    show Ev K _ [s1, s2, s3] M (.dat r) M'
    have ha : ad M' = ad M := by
      obtain ⟨p, q, n, hs, xs, ws, wd, d, fu, rfl, rfl, _⟩ := hR
      rfl
    exact ev_callMs (EvA.cons (ev_var rfl n1) (EvA.cons (ev_var rfl n2) EvA.nil)) M M' ha (fun _ => ⟨List.Sublist.refl _, ha, fun x hx => .inl hx⟩) hR
  · rintro M ss C' ⟨s1, s2, s3, rfl, ⟨n1, n2⟩, hR⟩ F L σ H Q hE o
    replace o : Ok K F L σ H [s1, s2, s3] M := o
    exact x_call (EvA.cons (ev_var rfl n1) (EvA.cons (ev_var rfl n2) EvA.nil)) M (List.Sublist.refl _) hR hE o
set_option maxHeartbeats 16000000 in
theorem ok_law {f cL PT : Addr} {dV kV doc pm ct oc : Value} {an od : Option Addr} {osl : Array (Option Value)} (lk : K.lookup f = some ⟨oc, od, .func (PySem.W.fnOf "law" "law" (defArgs s_law) (defBody s_law) (defScope s_law) dV kV doc pm an (.ref cL) ct), osl⟩) (hcd : PySem.W.codeIn K (.ref cL) "law" = true) (B : Bl mg) (TB : LamX.TabB base mg cL PT)
    {C_Search : Addr} (Y_Search : SearchC K mg C_Search) (h_law_bags : Has P w K mg base 3 "_law_bags" ["script", "limit"] (spB K R_law_bags)) (h_law_take : Has P w K mg base 1 "_law_take" ["bag", "many"] (spM K R_law_take)) (h_Search___init__ : HasI P w K mg base C_Search 12 ["self", "length"] (spI K C_Search R_sInit)) (h_law_words : Has P w K mg base 2 "_law_words" ["thing", "stands"] (spN K R_law_words)) (h_law_after : Has P w K mg base 4 "_law_after" ["length", "state", "deed"] (spP K R_law_after)) (h_law_do : Has P w K mg base 13 "_law_do" ["search", "deed"] (spMs K (R_law_do C_Search))) (h_Search___len__ : HasM P w K mg base C_Search 1 "__len__" ["self"] (spMs K (R_sLen C_Search))) (h_Search_answers : HasM P w K mg base C_Search 1 "answers" ["self"] (spMsN K (R_sAnswersN C_Search))) (h_Search_stands : HasM P w K mg base C_Search 1 "stands" ["self"] (spMsN K (R_sStandsN C_Search))) (h_Search_waits : HasM P w K mg base C_Search 1 "waits" ["self"] (spMs K (R_waits C_Search))) (h_Search_can_lie : HasM P w K mg base C_Search 12 "can_lie" ["self"] (spMs K (R_sCan C_Search))) (h_law_open : Has P w K mg base 3 "_law_open" ["length", "stands", "words"] (spP K R_law_open)) (h_Search___eq__ : HasM P w K mg base C_Search 2 "__eq__" ["self", "other"] (spMs K (R_sEq C_Search))) (h_Search_back : HasM P w K mg base C_Search 1 "back" ["self"] (spMs K (R_sBack C_Search))) (Is : IsC K C_Search) {T S : Addr} {es : List Addr} {ce : CE} (hRef : ∀ x : Er, RefE K T S es (ce x) x.nm) (h_law_refused : Has P w K mg base 21 "_law_refused" ["call", "one", "two", "three"] (spMs K (R_refused K T S es mkDo (lamB law_lam) (RL C_Search) (XL ce C_Search)))) :
    FnOk P w K mg base CX0 22 f (PySem.W.fnOf "law" "law" (defArgs s_law) (defBody s_law) (defScope s_law) dV kV doc pm an (.ref cL) ct) ["script"] (spLawT K PT) := by
  obtain ⟨_, _, G_law_bags, g_law_bags, k_law_bags, b_law_bags⟩ := h_law_bags
  obtain ⟨_, _, G_law_take, g_law_take, k_law_take, b_law_take⟩ := h_law_take
  obtain ⟨_, _, G_Search___init__, k_Search, b_Search___init__⟩ := h_Search___init__
  obtain ⟨_, _, G_law_words, g_law_words, k_law_words, b_law_words⟩ := h_law_words
  obtain ⟨_, _, G_law_after, g_law_after, k_law_after, b_law_after⟩ := h_law_after
  obtain ⟨_, _, G_law_refused, g_law_refused, k_law_refused, b_law_refused⟩ := h_law_refused
  obtain ⟨_, _, G_law_do, g_law_do, k_law_do, b_law_do⟩ := h_law_do
  obtain ⟨_, _, G_Search___len__, m_Search___len__, b_Search___len__⟩ := h_Search___len__
  obtain ⟨_, _, G_Search_answers, m_Search_answers, b_Search_answers⟩ := h_Search_answers
  obtain ⟨_, _, G_Search_stands, m_Search_stands, b_Search_stands⟩ := h_Search_stands
  obtain ⟨_, _, G_Search_waits, m_Search_waits, b_Search_waits⟩ := h_Search_waits
  obtain ⟨_, _, G_Search_can_lie, m_Search_can_lie, b_Search_can_lie⟩ := h_Search_can_lie
  obtain ⟨_, _, G_law_open, g_law_open, k_law_open, b_law_open⟩ := h_law_open
  obtain ⟨_, _, G_Search___eq__, m_Search___eq__, b_Search___eq__⟩ := h_Search___eq__
  obtain ⟨_, _, G_Search_back, m_Search_back, b_Search_back⟩ := h_Search_back
  have c_Search := Y_Search.cl
  have g_Search := Y_Search.g
  refine okLawT (nm := nmT) (T := PT) lk hcd sc_law rfl fun A outer s H E hr => ⟨_, (pss_cons (ps_for PassesOwn.never rfl (wi_list (K' := K) rfl (pe_call G_law_bags (hr.mono (by first | decide | omega)) (by rfl) g_law_bags k_law_bags b_law_bags .nil pass0 (pa_cons (pv 0) (pa_cons pe_int pa_nil)))) (pg_name (i := 1) sc_law.nd rfl (by first | exact .inl rfl | exact .inr rfl))
      (pss_cons (ps_set (i := 2) sc_law.nd rfl (by first | exact .inl rfl | exact .inr rfl) (pe_op op_add pe_int (pe_call G_law_take (hr.mono (by first | decide | omega)) (by rfl) g_law_take k_law_take b_law_take .nil pass0 (pa_cons (pv 1) (pa_cons pe_int pa_nil)))))
      (pss_cons (ps_set (i := 3) sc_law.nd rfl (by first | exact .inl rfl | exact .inr rfl) (pe_op op_add pe_int (pe_call G_law_take (hr.mono (by first | decide | omega)) (by rfl) g_law_take k_law_take b_law_take .nil pass0 (pa_cons (pv 1) (pa_cons (pv 2) pa_nil)))))
      (pss_cons (ps_par3 (i := 4) (j := 5) (l := 6) rfl sc_law.nd rfl rfl rfl (by decide) (by decide) (by decide) rfl rfl rfl (pa_cons (pe_make k_Search G_Search___init__ (hr.mono (by first | decide | omega)) (by rfl) g_Search b_Search___init__ .nil pass0 (pa_cons (pv 2) pa_nil)) (pa_cons (pe_make k_Search G_Search___init__ (hr.mono (by first | decide | omega)) (by rfl) g_Search b_Search___init__ .nil pass0 (pa_cons (pv 2) pa_nil)) (pa_cons (pe_lst (pa_cons (pe_tup (pa_cons (pe_lst pa_nil) (pa_cons (pe_lst pa_nil) pa_nil))) pa_nil)) pa_nil))) (by first | rfl | exact sw_three rfl rfl rfl rfl (by decide +kernel) (by decide +kernel) (by decide +kernel) (by decide +kernel) (by decide +kernel) (by decide +kernel) (by decide +kernel) (by decide +kernel)))
      (pss_cons (ps_for PassesOwn.never rfl (pi_range1 (by rfl) B.range_ (pa_cons (pe_call G_law_take (hr.mono (by first | decide | omega)) (by rfl) g_law_take k_law_take b_law_take .nil pass0 (pa_cons (pv 1) (pa_cons pe_int pa_nil))) pa_nil)) (pg_name (i := 7) sc_law.nd rfl (by first | exact .inl rfl | exact .inr rfl))
      (pss_cons (ps_asg (pe_ix (w_ixL (K' := K) rfl) (pv 6) (pe_un un_neg pe_int) (fun _ _ => rfl)) (pg_tup rfl (pgs_cons (pg_name (i := 8) sc_law.nd rfl (by first | exact .inl rfl | exact .inr rfl)) (pgs_cons (pg_name (i := 9) sc_law.nd rfl (by first | exact .inl rfl | exact .inr rfl)) pgs_nil))))
      (pss_cons (ps_set (i := 10) sc_law.nd rfl (by first | exact .inl rfl | exact .inr rfl) (pe_ix (w_ixL (K' := K) rfl) (pe_lst (pa_cons pe_str (pa_cons pe_str (pa_cons pe_str pa_nil)))) (pe_ix (w_ixL (K' := K) rfl) (pe_lst (pa_cons pe_int (pa_cons pe_int (pa_cons pe_int (pa_cons pe_int (pa_cons pe_int (pa_cons pe_int (pa_cons pe_int (pa_cons pe_int pa_nil))))))))) (pe_call G_law_take (hr.mono (by first | decide | omega)) (by rfl) g_law_take k_law_take b_law_take .nil pass0 (pa_cons (pv 1) (pa_cons pe_int pa_nil))) (fun _ _ => rfl)) (fun _ _ => rfl)))
      (pss_cons (ps_set (i := 11) sc_law.nd rfl (by first | exact .inl rfl | exact .inr rfl) (pe_op o_cat (pe_op o_rep (pe_lst (pa_cons (pe_op op_add pe_int (pe_call G_law_take (hr.mono (by first | decide | omega)) (by rfl) g_law_take k_law_take b_law_take .nil pass0 (pa_cons (pv 1) (pa_cons (pv 2) pa_nil)))) pa_nil)) pe_int) (pe_lst (pa_cons pe_int (pa_cons (pe_op op_add (pv 2) pe_int) (pa_cons pe_non (pa_cons pe_bl (pa_cons pe_str pa_nil))))))))
      (pss_cons (ps_if (pt_cmpR op_eq (pv 10) pe_str (nomark _)) (pss_cons (ps_set (i := 12) sc_law.nd rfl (by first | exact .inl rfl | exact .inr rfl) (pe_ix (w_ixL (K' := K) rfl) (pe_op o_cat (pe_call G_law_words (hr.mono (by first | decide | omega)) (by rfl) g_law_words k_law_words b_law_words .nil pass0 (pa_cons (pv 3) (pa_cons (pv 8) pa_nil))) (pe_lst (pa_cons pe_str pa_nil))) (pe_callB (w_len (K' := K) rfl) (by rfl) B.len_ (by decide +kernel) (pa_cons (pv 9) pa_nil)) (fun _ _ => rfl)))
      (pss_one (ps_set (i := 11) sc_law.nd rfl (by first | exact .inl rfl | exact .inr rfl) (pe_op o_cat (pe_op o_rep (pe_lst (pa_cons (pv 12) pa_nil)) pe_int) (pe_lst (pa_cons pe_str (pa_cons pe_str (pa_cons pe_str (pa_cons pe_str pa_nil))))))))) pss_nil)
      (pss_cons (ps_par (i := 13) (j := 14) rfl sc_law.nd rfl rfl (by decide) rfl rfl (pa_cons (pe_tup (pa_cons (pv 10) (pa_cons (pe_ix (w_ixL (K' := K) rfl) (pv 11) (pe_call G_law_take (hr.mono (by first | decide | omega)) (by rfl) g_law_take k_law_take b_law_take .nil pass0 (pa_cons (pv 1) (pa_cons pe_int pa_nil))) (fun _ _ => rfl)) pa_nil))) (pa_cons (pe_lst (pa_cons pe_str (pa_cons pe_bl pa_nil))) pa_nil)) (by first | rfl | exact sw_two rfl rfl rfl rfl (by decide +kernel) (by decide +kernel) (by decide +kernel) (by decide +kernel)))
      (pss_cons (ps_if (pt_cmpR op_ne (pv 10) pe_str (nomark _)) (pss_one (ps_set (i := 14) sc_law.nd rfl (by first | exact .inl rfl | exact .inr rfl) (pe_call G_law_after (hr.mono (by first | decide | omega)) (by rfl) g_law_after k_law_after b_law_after .nil pass0 (pa_cons (pv 2) (pa_cons (pe_ix (w_ixL (K' := K) rfl) (pv 6) (pe_un un_neg pe_int) (fun _ _ => rfl)) (pa_cons (pv 13) pa_nil)))))) (pss_one (ps_if (pt_cmpR op_gt (pe_callB (w_len (K' := K) rfl) (by rfl) B.len_ (by decide +kernel) (pa_cons (pv 6) pa_nil)) pe_int (nomark _)) (pss_one (ps_set (i := 14) sc_law.nd rfl (by first | exact .inl rfl | exact .inr rfl) (pe_ix (w_ixL (K' := K) rfl) (pv 6) (pe_un un_neg pe_int) (fun _ _ => rfl)))) pss_nil)))
      (pss_cons (ps_set (i := 15) sc_law.nd rfl (by first | exact .inl rfl | exact .inr rfl) (pe_call G_law_refused (hr.mono (by first | decide | omega)) (by rfl) g_law_refused k_law_refused b_law_refused .nil pass0 (pa_cons (pe_lam (nm := nmT) TB rfl rfl rfl (by decide +kernel)) (pa_cons (pv 4) (pa_cons (pv 13) (pa_cons pe_int pa_nil))))))
      (pss_cons (ps_if (pt_cmpR (w_neD (K' := K) rfl hr.units) (pv 15) (pe_ifExp (pt_val (pe_callB (w_isi (K' := K) rfl) (by rfl) B.isinstance_ (by decide +kernel) (pa_cons (pv 14) (pa_cons (pe_bltn (by rfl) B.list_ (by decide +kernel) (show RelV (.ty "list") _ from rfl)) pa_nil)))) (pv 14) (pe_lst pa_nil)) (nomark _)) (pss_one (ps_ret pe_bl)) pss_nil)
      (pss_cons (ps_if (pt_cmpR (w_eqD (K' := K) rfl hr.units) (pv 15) (pe_lst pa_nil) (nomark _)) (pss_cons (ps_set (i := 6) sc_law.nd rfl (by first | exact .inl rfl | exact .inr rfl) (pe_ifExp (pt_cmpR op_eq (pv 10) pe_str (nomark _)) (pe_slice (w_slL (K' := K) rfl) (pv 6) po_none (po_some (pe_un un_neg pe_int))) (pe_op o_cat (pv 6) (pe_lst (pa_cons (pv 14) pa_nil)))))
      (pss_one (ps_expr (pe_call G_law_do (hr.mono (by first | decide | omega)) (by rfl) g_law_do k_law_do b_law_do .nil pass0 (pa_cons (pv 5) (pa_cons (pv 13) pa_nil)))))) pss_nil)
      (pss_cons (ps_asg (pe_ix (w_ixL (K' := K) rfl) (pv 6) (pe_un un_neg pe_int) (fun _ _ => rfl)) (pg_tup rfl (pgs_cons (pg_name (i := 8) sc_law.nd rfl (by first | exact .inl rfl | exact .inr rfl)) (pgs_cons (pg_name (i := 9) sc_law.nd rfl (by first | exact .inl rfl | exact .inr rfl)) pgs_nil))))
      (pss_cons (ps_if (PW.pt (pw_or (pt_cmpR (w_neD (K' := K) rfl hr.units) (pe_meth0 (pv 4) c_Search m_Search_stands G_Search_stands (hr.mono (by first | decide | omega)) b_Search_stands .nil pass0) (pv 8) (nomark _)) (pw_or (pt_cmpR (w_neD (K' := K) rfl hr.units) (pe_meth0 (pv 4) c_Search m_Search_answers G_Search_answers (hr.mono (by first | decide | omega)) b_Search_answers .nil pass0) (pv 9) (nomark _)) (pw_or1 (pt_cmpR op_ne (pe_callB (call_lenOwn G_Search___len__ (hr.mono (by first | decide | omega)) m_Search___len__.at_ m_Search___len__.fn b_Search___len__ pass0) (by rfl) B.len_ (by decide +kernel) (pa_cons (pv 4) pa_nil)) (pe_callB (w_len (K' := K) rfl) (by rfl) B.len_ (by decide +kernel) (pa_cons (pv 8) pa_nil)) (nomark _)))))) (pss_one (ps_ret pe_bl)) pss_nil)
      (pss_cons (ps_if (pt_cmpR op_ne (pe_callB call_repr_bool (by rfl) B.repr_ (by decide +kernel) (pa_cons (pe_meth0 (pv 4) c_Search m_Search_waits G_Search_waits (hr.mono (by first | decide | omega)) b_Search_waits .nil pass0) pa_nil)) (pe_callB call_repr_bool (by rfl) B.repr_ (by decide +kernel) (pa_cons (pe_cmpR op_gt (pe_op op_sub (pe_callB (w_len (K' := K) rfl) (by rfl) B.len_ (by decide +kernel) (pa_cons (pv 8) pa_nil)) pe_int) (pe_callB (w_len (K' := K) rfl) (by rfl) B.len_ (by decide +kernel) (pa_cons (pv 9) pa_nil)) (nomark _)) pa_nil)) (nomark _)) (pss_one (ps_ret pe_bl)) pss_nil)
      (pss_cons (ps_if (pt_cmpR (w_neD (K' := K) rfl hr.units) (pe_meth0 (pv 4) c_Search m_Search_can_lie G_Search_can_lie (hr.mono (by first | decide | omega)) b_Search_can_lie .nil pass0) (pe_call G_law_open (hr.mono (by first | decide | omega)) (by rfl) g_law_open k_law_open b_law_open .nil pass0 (pa_cons (pv 2) (pa_cons (pv 8) (pa_cons (pv 9) pa_nil)))) (nomark _)) (pss_one (ps_ret pe_bl)) pss_nil)
      (pss_cons (ps_expr (pe_bm PySem.F.plainAttrs_list PySem.F.slot_list_append PySem.F.type_list_append mt_append (pe_meth0 (pv 4) c_Search m_Search_stands G_Search_stands (hr.mono (by first | decide | omega)) b_Search_stands .nil pass0) (pa_cons pe_int pa_nil)))
      (pss_cons (ps_expr (pe_bm PySem.F.plainAttrs_list PySem.F.slot_list_append PySem.F.type_list_append mt_append (pe_meth0 (pv 4) c_Search m_Search_answers G_Search_answers (hr.mono (by first | decide | omega)) b_Search_answers .nil pass0) (pa_cons pe_int pa_nil)))
      (pss_one (ps_if (PW.pt (pw_or (pt_not (pt_cmpR (w_eqOwn (K' := K) rfl G_Search___eq__ (hr.mono (by first | decide | omega)) m_Search___eq__.at_ m_Search___eq__.fn b_Search___eq__ pass0) (pv 4) (pv 5) (nomark _))) (pw_or1 (pt_cmpR (w_eqOwn (K' := K) rfl G_Search___eq__ (hr.mono (by first | decide | omega)) m_Search___eq__.at_ m_Search___eq__.fn b_Search___eq__ pass0) (pv 4) (pv 8) (nomark _))))) (pss_one (ps_ret pe_bl)) pss_nil))))))))))))))))))
      (pss_cons (ps_for PassesOwn.never rfl (pi_range1 (by rfl) B.range_ (pa_cons (pe_op op_sub (pe_callB (w_len (K' := K) rfl) (by rfl) B.len_ (by decide +kernel) (pa_cons (pv 6) pa_nil)) pe_int) pa_nil)) (pg_name (i := 7) sc_law.nd rfl (by first | exact .inl rfl | exact .inr rfl))
      (pss_one (ps_expr (pe_meth0 (pv 4) c_Search m_Search_back G_Search_back (hr.mono (by first | decide | omega)) b_Search_back .nil pass0))))
      (pss_one (ps_if (PW.pt (pw_or (pt_not (pt_cmpR (w_eqOwn (K' := K) rfl G_Search___eq__ (hr.mono (by first | decide | omega)) m_Search___eq__.at_ m_Search___eq__.fn b_Search___eq__ pass0) (pv 4) (pe_make k_Search G_Search___init__ (hr.mono (by first | decide | omega)) (by rfl) g_Search b_Search___init__ .nil pass0 (pa_cons (pv 2) pa_nil)) (nomark _))) (pw_or1 (pt_cmpR op_ne (pe_cmpR (w_eqOwn (K' := K) rfl G_Search___eq__ (hr.mono (by first | decide | omega)) m_Search___eq__.at_ m_Search___eq__.fn b_Search___eq__ pass0) (pv 4) (pv 5) (nomark _)) (pe_cmpR (w_eqD (K' := K) rfl hr.units) (pe_ix (w_ixL (K' := K) rfl) (pv 6) (pe_un un_neg pe_int) (fun _ _ => rfl)) (pe_tup (pa_cons (pe_lst pa_nil) (pa_cons (pe_lst pa_nil) pa_nil))) (nomark _)) (nomark _))))) (pss_one (ps_ret pe_bl)) pss_nil))))))))
      (pss_one (ps_ret (pe_not (pe_cmpR (w_eqOwn (K' := K) rfl G_Search___eq__ (hr.mono (by first | decide | omega)) m_Search___eq__.at_ m_Search___eq__.fn b_Search___eq__ pass0) (pe_make k_Search G_Search___init__ (hr.mono (by first | decide | omega)) (by rfl) g_Search b_Search___init__ .nil pass0 (pa_cons pe_int pa_nil)) (pe_make k_Search G_Search___init__ (hr.mono (by first | decide | omega)) (by rfl) g_Search b_Search___init__ .nil pass0 (pa_cons pe_int pa_nil)) (nomark _)))))), ?_⟩
  intro xs0 hxs F L σ H D hrt o
  try dsimp only [cxOf]
  refine q_bagsT (fun ρ => ∃ s1 s2 s3 s4 s5 s6 s7 s8 s9 s10 s11 s12 s13 s14 s15, ρ = [.dat (dScr xs0), s1, s2, s3, s4, s5, s6, s7, s8, s9, s10, s11, s12, s13, s14, s15]) (evb_law_bags (by wtm_at "ev") (by wtm_at "ev") (by decide)) ⟨.un, .un, .un, .un, .un, .un, .un, .un, .un, .un, .un, .un, .un, .un, .un, rfl⟩ (fun F' L' i b ρ D' hi hJ hnx σ H o => ?_) (fun ρ hJ σ H o => ?_) o
  · obtain ⟨s1, s2, s3, s4, s5, s6, s7, s8, s9, s10, s11, s12, s13, s14, s15, rfl⟩ := hJ
    obtain ⟨dr, hd, edr⟩ := bagOf_eq xs0 (i : Nat)
    replace o : Ok K F' L' σ H [.dat (dScr xs0), .loc (.ref b), s2, s3, s4, s5, s6, s7, s8, s9, s10, s11, s12, s13, s14, s15] [(b, bg dr 0), (PT, .tab nmT)] := by rw [edr] at o; exact o
    obtain ⟨n0, c1, hn0, hc1, e1⟩ := x_one (K := K) (ρ := [.dat (dScr xs0), .loc (.ref b), s2, s3, s4, s5, s6, s7, s8, s9, s10, s11, s12, s13, s14, s15]) (p := b) (dr := dr) (pos := 0) (pos' := 0) (Mr := [(PT, .tab nmT)]) (b := 1) (E := E0) (tb := tC (.int 20)) (n := 20) rfl ev_int hd (by decide) (by decide)
    obtain ⟨n, rfl⟩ : ∃ n : Nat, n0 = n := ⟨n0.toNat, by omega⟩
    have hn1 : 1 ≤ n := by omega
    have hn20 : n ≤ 20 := by omega
    refine q_asg e1 (fun σ H o => ?_) o
    replace o : Ok K F' L' σ H [.dat (dScr xs0), .loc (.ref b), .dat (.int n), s3, s4, s5, s6, s7, s8, s9, s10, s11, s12, s13, s14, s15] [(b, bg dr c1), (PT, .tab nmT)] := o
    obtain ⟨t, c2, ht, hc2, e2⟩ := x_one (K := K) (ρ := [.dat (dScr xs0), .loc (.ref b), .dat (.int n), s3, s4, s5, s6, s7, s8, s9, s10, s11, s12, s13, s14, s15]) (p := b) (dr := dr) (pos := c1) (pos' := c1) (Mr := [(PT, .tab nmT)]) (b := 1) (E := E0) (tb := tVar 2) (n := n) rfl (ev_varD rfl) hd hc1 (by omega)
    refine q_asg e2 (fun σ H o => ?_) o
    replace o : Ok K F' L' σ H [.dat (dScr xs0), .loc (.ref b), .dat (.int n), .dat (.int t), s4, s5, s6, s7, s8, s9, s10, s11, s12, s13, s14, s15] [(b, bg dr c2), (PT, .tab nmT)] := o
    refine q_par3M (ds1 := [.int n]) (ds2 := [.int n]) (d := .list (pstD [([], [])])) (EvA.cons (ev_varD rfl) EvA.nil) ⟨n, rfl, by omega, rfl, rfl⟩ (fun M => EvA.cons (ev_varD rfl) EvA.nil) ⟨n, rfl, by omega, rfl, rfl⟩ (fun M => EvN.ev (evn_lst (ds := [.tuple [.list [], .list []]]) (EvA.cons (ev_tupD (ds := [.list [], .list []]) (ed_cons (EvN.ev (evn_lst (ds := []) EvA.nil)) (ed_cons (EvN.ev (evn_lst (ds := []) EvA.nil)) ed_nil)) (by simp)) EvA.nil))) (fun p q p' q' σ H o => ?_) o
    replace o : Ok K F' L' σ H [.dat (dScr xs0), .loc (.ref b), .dat (.int n), .dat (.int t), .loc (.ref p), .loc (.ref p'), .dat (.list (pstD [([], [])])), s7, s8, s9, s10, s11, s12, s13, s14, s15] ([(b, bg dr c2), (PT, .tab nmT)] ++ srM C_Search n ([([], [])]) p q ++ srM C_Search n ([([], [])]) p' q') := o
    obtain ⟨t41, c3, ht41, hc3, e3⟩ := x_take (K := K) (ρ := [.dat (dScr xs0), .loc (.ref b), .dat (.int n), .dat (.int t), .loc (.ref p), .loc (.ref p'), .dat (.list (pstD [([], [])])), s7, s8, s9, s10, s11, s12, s13, s14, s15]) (p := b) (dr := dr) (pos := c2) (pos' := c2) (Mr := ([(PT, .tab nmT)] ++ srM C_Search n ([([], [])]) p q ++ srM C_Search n ([([], [])]) p' q')) (b := 1) (E := E0) (tb := tC (.int 41)) (many := 41) rfl ev_int hd hc2 (by decide)
    refine q_for (M1 := ([(b, bg dr c3), (PT, .tab nmT)] ++ srM C_Search n ([([], [])]) p q ++ srM C_Search n ([([], [])]) p' q')) (fun i ρ M => ∃ (fu : Hst) (c : Int) (s7 s8 s9 s10 s11 s12 s13 s14 s15 : Sl), JS i fu ∧ 0 ≤ c ∧ ρ = [.dat (dScr xs0), .loc (.ref b), .dat (.int n), .dat (.int t), .loc (.ref p), .loc (.ref p'), .dat (.list (pstD fu)), s7, s8, s9, s10, s11, s12, s13, s14, s15] ∧ M = ([(b, bg dr c), (PT, .tab nmT)] ++ srM C_Search n (fu) p q ++ srM C_Search n (fu) p' q'))
      (ei_rng1 (EvA.cons e3 EvA.nil) (by omega) (by omega)) (by wtm_at "eg") ⟨[([], [])], c3, s7, s8, s9, s10, s11, s12, s13, s14, s15, JS.zero, hc3, rfl, rfl⟩ (fun F2 sF j hj ρ M hJ σ H o => ?_) (fun ρ M hJ σ H o => ?_) o
    · obtain ⟨fu, c, s7, s8, s9, s10, s11, s12, s13, s14, s15, hS, hc, rfl, rfl⟩ := hJ
      obtain ⟨hs, xs, ws, rfl⟩ := hS.snoc
      have hj40 : j ≤ 40 := by omega
      have hmem : (xs, ws) ∈ hs ++ [(xs, ws)] := List.mem_append_right _ List.mem_cons_self
      obtain ⟨hG, hxl⟩ := hS.all _ hmem
      have hlen := hS.len
      rw [List.length_append, List.length_singleton] at hlen
      have ga := hG.a; have gb := hG.b; have gw := hG.w
      simp only at hxl ga gb gw
      replace o : Ok K F2 L' σ H [.dat (dScr xs0), .loc (.ref b), .dat (.int n), .dat (.int t), .loc (.ref p), .loc (.ref p'), .dat (.list (pstD (hs ++ [(xs, ws)]))), .dat (.int (j : Nat)), s8, s9, s10, s11, s12, s13, s14, s15] ([(b, bg dr c), (PT, .tab nmT)] ++ srM C_Search n (hs ++ [(xs, ws)]) p q ++ srM C_Search n (hs ++ [(xs, ws)]) p' q') := o
      refine q_asg2 (d1 := dI xs) (d2 := dS ws) (ev_ixL (ev_varD rfl) (ev_neg ev_int) (by rw [pstD_snoc]; exact atI_last _ _)) (fun σ H o => ?_) o
      replace o : Ok K F2 L' σ H [.dat (dScr xs0), .loc (.ref b), .dat (.int n), .dat (.int t), .loc (.ref p), .loc (.ref p'), .dat (.list (pstD (hs ++ [(xs, ws)]))), .dat (.int (j : Nat)), .dat (dI xs), .dat (dS ws), s10, s11, s12, s13, s14, s15] ([(b, bg dr c), (PT, .tab nmT)] ++ srM C_Search n (hs ++ [(xs, ws)]) p q ++ srM C_Search n (hs ++ [(xs, ws)]) p' q') := o
      obtain ⟨wd, c4, hwd, hc4, e4⟩ := x_word (K := K) (ρ := [.dat (dScr xs0), .loc (.ref b), .dat (.int n), .dat (.int t), .loc (.ref p), .loc (.ref p'), .dat (.list (pstD (hs ++ [(xs, ws)]))), .dat (.int (j : Nat)), .dat (dI xs), .dat (dS ws), s10, s11, s12, s13, s14, s15]) (p := b) (dr := dr) (pos := c) (Mr := ([(PT, .tab nmT)] ++ srM C_Search n (hs ++ [(xs, ws)]) p q ++ srM C_Search n (hs ++ [(xs, ws)]) p' q')) (b := 1) (E := E0) rfl hd hc
      refine q_asg e4 (fun σ H o => ?_) o
      replace o : Ok K F2 L' σ H [.dat (dScr xs0), .loc (.ref b), .dat (.int n), .dat (.int t), .loc (.ref p), .loc (.ref p'), .dat (.list (pstD (hs ++ [(xs, ws)]))), .dat (.int (j : Nat)), .dat (dI xs), .dat (dS ws), .dat (.str wd), s11, s12, s13, s14, s15] ([(b, bg dr c4), (PT, .tab nmT)] ++ srM C_Search n (hs ++ [(xs, ws)]) p q ++ srM C_Search n (hs ++ [(xs, ws)]) p' q') := o
      obtain ⟨v, c5, hv, hc5, e5⟩ := x_one (K := K) (ρ := [.dat (dScr xs0), .loc (.ref b), .dat (.int n), .dat (.int t), .loc (.ref p), .loc (.ref p'), .dat (.list (pstD (hs ++ [(xs, ws)]))), .dat (.int (j : Nat)), .dat (dI xs), .dat (dS ws), .dat (.str wd), s11, s12, s13, s14, s15]) (p := b) (dr := dr) (pos := c4) (pos' := c4) (Mr := ([(PT, .tab nmT)] ++ srM C_Search n (hs ++ [(xs, ws)]) p q ++ srM C_Search n (hs ++ [(xs, ws)]) p' q')) (b := 1) (E := E0) (tb := tVar 2) (n := n) rfl (ev_varD rfl) hd hc4 (by omega)
      refine q_asg (s := .dat (.list ((List.replicate (6 : Int).toNat [PyData.int v]).flatten ++ [.int 0, .int (n + 1), .none, .bool true, .str "1"]))) (M1 := ([(b, bg dr c5), (PT, .tab nmT)] ++ srM C_Search n (hs ++ [(xs, ws)]) p q ++ srM C_Search n (hs ++ [(xs, ws)]) p' q')) (EvN.ev (evn_cat (EvN.ev (evn_rep (k := 6) (EvN.ev (evn_lst (ds := [.int v]) (EvA.cons e5 EvA.nil))) ev_int (by decide) (by simp) (by decide))) (EvN.ev (evn_lst (ds := [.int 0, .int (n + 1), .none, .bool true, .str "1"]) (EvA.cons ev_int (EvA.cons (ev_add (ev_varD rfl) ev_int) (EvA.cons ev_non (EvA.cons ev_bl (EvA.cons ev_str EvA.nil))))))) (by simp))) (fun σ H o => ?_) o
      have hth0 : ((List.replicate (6 : Int).toNat [PyData.int v]).flatten ++ [PyData.int 0, PyData.int (n + 1), PyData.none, PyData.bool true, PyData.str "1"]).length = 11 := by simp
      generalize (List.replicate (6 : Int).toNat [PyData.int v]).flatten ++ [PyData.int 0, PyData.int (n + 1), PyData.none, PyData.bool true, PyData.str "1"] = th0 at o hth0
      replace o : Ok K F2 L' σ H [.dat (dScr xs0), .loc (.ref b), .dat (.int n), .dat (.int t), .loc (.ref p), .loc (.ref p'), .dat (.list (pstD (hs ++ [(xs, ws)]))), .dat (.int (j : Nat)), .dat (dI xs), .dat (dS ws), .dat (.str wd), .dat (.list th0), s12, s13, s14, s15] ([(b, bg dr c5), (PT, .tab nmT)] ++ srM C_Search n (hs ++ [(xs, ws)]) p q ++ srM C_Search n (hs ++ [(xs, ws)]) p' q') := o
      refine q_ifJ2 (b := decide (wd = sAns)) (fun ρ' M' => ∃ (th : List PyData) (s12 : Sl), th.length = 11 ∧ ρ' = [.dat (dScr xs0), .loc (.ref b), .dat (.int n), .dat (.int t), .loc (.ref p), .loc (.ref p'), .dat (.list (pstD (hs ++ [(xs, ws)]))), .dat (.int (j : Nat)), .dat (dI xs), .dat (dS ws), .dat (.str wd), .dat (.list th), s12, s13, s14, s15] ∧ M' = ([(b, bg dr c5), (PT, .tab nmT)] ++ srM C_Search n (hs ++ [(xs, ws)]) p q ++ srM C_Search n (hs ++ [(xs, ws)]) p' q')) (et_test (ev_eqS (ev_varD rfl) ev_str)) (fun ρ M hJ σ H o => ?_) (fun e k H o => ?_) (fun e k H o => k _ _ ⟨th0, s12, hth0, rfl, rfl⟩ σ H o) o
      rotate_left
      · have hal := (answers_ws t xs).1
        refine q_asg (D := { nx := _, rt := _, bk := _, ct := _ }) (s := .dat (.str ((answers t xs ++ [wSame]).getD ws.length Str.empty))) (M1 := ([(b, bg dr c5), (PT, .tab nmT)] ++ srM C_Search n (hs ++ [(xs, ws)]) p q ++ srM C_Search n (hs ++ [(xs, ws)]) p' q')) (ev_isD (ev_ixS (ns := answers t xs ++ [wSame]) (EvN.ev (evn_is (evn_cat (EvN.ev (ev_law_words (ev_varD rfl) (ev_varD rfl) (by omega))) (EvN.ev (evn_lst (ds := [.str "same"]) (EvA.cons ev_str EvA.nil))) (by rw [List.length_map]; simp; omega)) (by rw [List.map_append]; rfl))) (ev_lenL (EvA.cons (ev_varD rfl) EvA.nil)) (by omega) (by rw [List.length_map, List.length_append, List.length_singleton]; omega)) (by rw [List.length_map]; rfl)) (fun σ H o => ?_) o
        generalize (answers t xs ++ [wSame]).getD ws.length Str.empty = tw at o
        replace o : Ok K F2 L' σ H [.dat (dScr xs0), .loc (.ref b), .dat (.int n), .dat (.int t), .loc (.ref p), .loc (.ref p'), .dat (.list (pstD (hs ++ [(xs, ws)]))), .dat (.int (j : Nat)), .dat (dI xs), .dat (dS ws), .dat (.str wd), .dat (.list th0), .dat (.str tw), s13, s14, s15] ([(b, bg dr c5), (PT, .tab nmT)] ++ srM C_Search n (hs ++ [(xs, ws)]) p q ++ srM C_Search n (hs ++ [(xs, ws)]) p' q') := o
        refine s_asg (s := .dat (.list ((List.replicate (7 : Int).toNat [PyData.str tw]).flatten ++ [.str "warm", .str "cold", .str "same", .str "hot"]))) (M1 := ([(b, bg dr c5), (PT, .tab nmT)] ++ srM C_Search n (hs ++ [(xs, ws)]) p q ++ srM C_Search n (hs ++ [(xs, ws)]) p' q')) (EvN.ev (evn_cat (EvN.ev (evn_rep (k := 7) (EvN.ev (evn_lst (ds := [.str tw]) (EvA.cons (ev_varD rfl) EvA.nil))) ev_int (by decide) (by simp) (by decide))) (EvN.ev (evn_lst (ds := [.str "warm", .str "cold", .str "same", .str "hot"]) (EvA.cons ev_str (EvA.cons ev_str (EvA.cons ev_str (EvA.cons ev_str EvA.nil)))))) (by simp))) (fun σ H o => k _ _ ⟨_, _, ?_, rfl, rfl⟩ σ H o) o
        simp
      obtain ⟨th, s12, hth, rfl, rfl⟩ := hJ
      obtain ⟨t11, c6, ht11, hc6, e6⟩ := x_take (K := K) (ρ := [.dat (dScr xs0), .loc (.ref b), .dat (.int n), .dat (.int t), .loc (.ref p), .loc (.ref p'), .dat (.list (pstD (hs ++ [(xs, ws)]))), .dat (.int (j : Nat)), .dat (dI xs), .dat (dS ws), .dat (.str wd), .dat (.list th), s12, s13, s14, s15]) (p := b) (dr := dr) (pos := c5) (pos' := c5) (Mr := ([(PT, .tab nmT)] ++ srM C_Search n (hs ++ [(xs, ws)]) p q ++ srM C_Search n (hs ++ [(xs, ws)]) p' q')) (b := 1) (E := E0) (tb := tC (.int 11)) (many := 11) rfl ev_int hd hc5 (by decide)
      obtain ⟨d, hdv⟩ : ∃ d, th[t11.toNat]? = some d := ⟨th[t11.toNat]'(by omega), List.getElem?_eq_getElem (by omega)⟩
      refine q_par (M1 := ([(b, bg dr c6), (PT, .tab nmT)] ++ srM C_Search n (hs ++ [(xs, ws)]) p q ++ srM C_Search n (hs ++ [(xs, ws)]) p' q')) (s1 := .dat (.tuple [.str wd, d])) (s2 := .dat (.list [.str "NothingLeft", .bool true])) (EvA.cons (ev_tupD (ds := [.str wd, d]) (ed_cons (ev_varD rfl) (ed_cons (ev_ixL (ev_varD rfl) e6 (by rw [atI_pos ht11.1 (by omega)]; exact hdv)) ed_nil)) (by simp)) (EvA.cons (EvN.ev (evn_lst (ds := [.str "NothingLeft", .bool true]) (EvA.cons ev_str (EvA.cons ev_bl EvA.nil)))) EvA.nil)) (fun σ H o => ?_) o
      replace o : Ok K F2 L' σ H [.dat (dScr xs0), .loc (.ref b), .dat (.int n), .dat (.int t), .loc (.ref p), .loc (.ref p'), .dat (.list (pstD (hs ++ [(xs, ws)]))), .dat (.int (j : Nat)), .dat (dI xs), .dat (dS ws), .dat (.str wd), .dat (.list th), s12, .dat (.tuple [.str wd, d]), .dat (.list [.str "NothingLeft", .bool true]), s15] ([(b, bg dr c6), (PT, .tab nmT)] ++ srM C_Search n (hs ++ [(xs, ws)]) p q ++ srM C_Search n (hs ++ [(xs, ws)]) p' q') := o
      obtain ⟨res, hres⟩ : ∃ res, outD n hs (xs, ws) wd d = res := ⟨_, rfl⟩
      refine q_ifJ2 (b := !decide (wd = sBack)) (fun ρ' M' => ρ' = [.dat (dScr xs0), .loc (.ref b), .dat (.int n), .dat (.int t), .loc (.ref p), .loc (.ref p'), .dat (.list (pstD (hs ++ [(xs, ws)]))), .dat (.int (j : Nat)), .dat (dI xs), .dat (dS ws), .dat (.str wd), .dat (.list th), s12, .dat (.tuple [.str wd, d]), .dat (dueO res), s15] ∧ M' = ([(b, bg dr c6), (PT, .tab nmT)] ++ srM C_Search n (hs ++ [(xs, ws)]) p q ++ srM C_Search n (hs ++ [(xs, ws)]) p' q')) (et_test (ev_neS (ev_varD rfl) ev_str)) (fun ρ M hJ σ H o => ?_) (fun e k H o => ?_) (fun e k H o => ?_) o
      rotate_left
      · have hb : wd ≠ sBack := by simpa using e
        exact q_asg (s := .dat (dueO res)) (M1 := ([(b, bg dr c6), (PT, .tab nmT)] ++ srM C_Search n (hs ++ [(xs, ws)]) p q ++ srM C_Search n (hs ++ [(xs, ws)]) p' q')) (ev_isD (ev_law_after (n := n) (h := (xs, ws)) (wd := wd) (d := d) (ev_varD rfl) (ev_ixL (ev_varD rfl) (ev_neg ev_int) (by rw [pstD_snoc]; exact atI_last _ _)) (ev_varD rfl) (by omega) (by simp only; omega) hG) (by rw [← hres]; exact due_aft hb)) (fun σ H o => k _ _ ⟨rfl, rfl⟩ σ H o) o
      · have hb : wd = sBack := by simpa using e
        have hr : res = if hs = [] then .error .left else .ok hs := by rw [← hres]; unfold outD; rw [if_pos hb]
        refine q_if10 (b := decide ((1 : Int) < (hs.length + 1 : Nat))) (et_is (et_test (ev_gt (ev_lenL (EvA.cons (ev_varD rfl) EvA.nil)) ev_int)) (by rw [List.length_map, List.length_append]; rfl)) (fun e H o => ?_) (fun e H o => ?_) o
        · have e1 := of_decide_eq_true e
          rcases List.eq_nil_or_concat hs with z | ⟨hs1, h1, z⟩
          · rw [z] at e1; simp at e1
          · rw [List.concat_eq_append] at z
            have ed : dueO res = stD h1 := by
              rw [hr, if_neg (by rw [z]; simp), z]
              simp [dueO]
            exact q_asg (s := .dat (dueO res)) (M1 := ([(b, bg dr c6), (PT, .tab nmT)] ++ srM C_Search n (hs ++ [(xs, ws)]) p q ++ srM C_Search n (hs ++ [(xs, ws)]) p' q')) (ev_isD (ev_ixL (ev_varD rfl) (ev_neg ev_int) (by rw [z]; exact at_two hs1 h1 (xs, ws))) ed.symm) (fun σ H o => k _ _ ⟨rfl, rfl⟩ σ H o) o
        · have e1 : hs = [] := by
            have := of_decide_eq_false e
            exact List.length_eq_zero_iff.mp (by omega)
          have ed : dueO res = .list [.str "NothingLeft", .bool true] := by rw [hr, if_pos e1]; rfl
          exact k _ _ ⟨by rw [ed], rfl⟩ σ H o
      obtain ⟨rfl, rfl⟩ := hJ
      have hB : DoB n hs (xs, ws) := ⟨by omega, by omega, by simp only; omega, hG⟩
      have hcall : R_refused K T S es mkDo (lamB law_lam) (RL C_Search) (XL ce C_Search) (srM C_Search n (hs ++ [(xs, ws)]) p q) [.pr (φL mkDo (lamB law_lam)), .loc (.ref p), .dat (.tuple [.str wd, d]), .dat (.int 0)] (kinO res) (srM C_Search n (newO (hs ++ [(xs, ws)]) res) p q) := by
        cases res with
        | error x => exact ⟨_, _, _, rfl, ⟨(fun z => nomatch z), (fun z => nomatch z), (fun z => nomatch z)⟩, .inr ⟨ce x, x.nm, ⟨_, _, _, rfl, ⟨(fun z => nomatch z), (fun z => nomatch z)⟩, p, q, n, hs, xs, ws, wd, d, x, rfl, rfl, hB, hres, rfl⟩, hRef x, rfl, rfl⟩⟩
        | ok fu' => exact ⟨_, _, _, rfl, ⟨(fun z => nomatch z), (fun z => nomatch z), (fun z => nomatch z)⟩, .inl ⟨.none, ⟨_, _, _, rfl, ⟨(fun z => nomatch z), (fun z => nomatch z)⟩, p, q, n, hs, xs, ws, wd, d, fu', rfl, rfl, rfl, hB, hres, rfl⟩, rfl, rfl⟩⟩
      refine q_asg (s := .dat (kinO res)) (M1 := ([(b, bg dr c6), (PT, .tab nmT)] ++ srM C_Search n (newO (hs ++ [(xs, ws)]) res) p q ++ srM C_Search n (hs ++ [(xs, ws)]) p' q')) (ev_callMs (M1 := ([(b, bg dr c6), (PT, .tab nmT)] ++ srM C_Search n (hs ++ [(xs, ws)]) p q ++ srM C_Search n (hs ++ [(xs, ws)]) p' q')) (EvA.cons (ev_lam (P := PT) (nm := nmT) (by simp) (fun _ => rfl)) (EvA.cons (ev_varL rfl) (EvA.cons (ev_varD rfl) (EvA.cons ev_int EvA.nil)))) (srM C_Search n (hs ++ [(xs, ws)]) p q) (srM C_Search n (newO (hs ++ [(xs, ws)]) res) p q) rfl (fun nd => Sw.mid rfl nd) hcall) (fun σ H o => ?_) o
      replace o : Ok K F2 L' σ H [.dat (dScr xs0), .loc (.ref b), .dat (.int n), .dat (.int t), .loc (.ref p), .loc (.ref p'), .dat (.list (pstD (hs ++ [(xs, ws)]))), .dat (.int (j : Nat)), .dat (dI xs), .dat (dS ws), .dat (.str wd), .dat (.list th), s12, .dat (.tuple [.str wd, d]), .dat (dueO res), .dat (kinO res)] ([(b, bg dr c6), (PT, .tab nmT)] ++ srM C_Search n (newO (hs ++ [(xs, ws)]) res) p q ++ srM C_Search n (hs ++ [(xs, ws)]) p' q') := o
      refine q_ifF0 (et_is (et_test (ev_neD (d1 := kinO res) (d2 := kinO res) (ev_varD rfl) (ev_isD (ev_ite2 (et_test (ev_isi (ev_varD rfl) (by simp))) (ev_varD rfl) (EvN.ev (evn_lst (ds := []) EvA.nil))) (kin_due res)) ((sh_kinO res).shaped (by decide)) ((sh_kinO res).shaped (by decide)))) (by rw [eqv_kin]; rfl)) (fun H o => ?_) o
      refine q_ifJ2 (b := isOk res) (fun ρ' M' => ∃ (fu : Hst) (s7 s8 s9 s10 s11 s12 s13 s14 s15 : Sl), JS (j + 1) fu ∧ ρ' = [.dat (dScr xs0), .loc (.ref b), .dat (.int n), .dat (.int t), .loc (.ref p), .loc (.ref p'), .dat (.list (pstD fu)), s7, s8, s9, s10, s11, s12, s13, s14, s15] ∧ M' = ([(b, bg dr c6), (PT, .tab nmT)] ++ srM C_Search n (fu) p q ++ srM C_Search n (fu) p' q')) (et_is (et_test (ev_eqD (ev_varD rfl) (EvN.ev (evn_lst (ds := []) EvA.nil)) ((sh_kinO res).shaped (by decide)) (sh_nil0.shaped (by decide)))) (eqv_kin0 res)) (fun ρ M hJ σ H o => ?_) (fun e k H o => ?_) (fun e k H o => ?_) o
      rotate_left
      · cases res with
        | error x => cases e
        | ok fu' =>
          refine q_asg (D := { nx := _, rt := _, bk := _, ct := _ }) (s := .dat (.list (pstD fu'))) (M1 := ([(b, bg dr c6), (PT, .tab nmT)] ++ srM C_Search n (fu') p q ++ srM C_Search n (hs ++ [(xs, ws)]) p' q')) ?es (fun σ H o => ?_) o
          case es =>
            by_cases hb : wd = sBack
            · unfold outD at hres
              rw [if_pos hb] at hres
              split at hres
              · cases hres
              · cases hres
                exact ev_iteT (et_is (et_test (ev_eqS (ev_varD rfl) ev_str)) (decide_eq_true hb)) (EvN.ev (evn_is (evn_slL (ev_varD rfl) eo_no (eo_some (ev_neg ev_int))) (cut_back hs (xs, ws))))
            · obtain ⟨h', _, rfl⟩ := out_aft hres hb
              exact ev_iteF (et_is (et_test (ev_eqS (ev_varD rfl) ev_str)) (decide_eq_false hb)) (EvN.ev (evn_is (evn_cat (ev_varD rfl) (EvN.ev (evn_lst (ds := [stD h']) (EvA.cons (ev_isD (ev_varD rfl) (by simp [dueO])) EvA.nil))) (by simp; omega)) (pstD_snoc _ _).symm))
          replace o : Ok K F2 L' σ H [.dat (dScr xs0), .loc (.ref b), .dat (.int n), .dat (.int t), .loc (.ref p), .loc (.ref p'), .dat (.list (pstD fu')), .dat (.int (j : Nat)), .dat (dI xs), .dat (dS ws), .dat (.str wd), .dat (.list th), s12, .dat (.tuple [.str wd, d]), .dat (dueO (.ok fu')), .dat (kinO (.ok fu'))] ([(b, bg dr c6), (PT, .tab nmT)] ++ srM C_Search n (fu') p q ++ srM C_Search n (hs ++ [(xs, ws)]) p' q') := o
          exact s_drop (D := { nx := _, rt := _, bk := _, ct := _ }) (M1 := ([(b, bg dr c6), (PT, .tab nmT)] ++ srM C_Search n (fu') p q ++ srM C_Search n (fu') p' q')) (ev_callMs (M1 := ([(b, bg dr c6), (PT, .tab nmT)] ++ srM C_Search n (fu') p q ++ srM C_Search n (hs ++ [(xs, ws)]) p' q')) (EvA.cons (ev_varL rfl) (EvA.cons (ev_varD rfl) EvA.nil)) (srM C_Search n (hs ++ [(xs, ws)]) p' q') (srM C_Search n fu' p' q') rfl (fun nd => Sw.app rfl nd) ⟨p', q', n, hs, xs, ws, wd, d, fu', rfl, rfl, rfl, hB, hres, rfl⟩) (fun σ H o => k _ _ ⟨fu', _, _, _, _, _, _, _, _, _, hS.step hres, rfl, rfl⟩ σ H o) o
      · cases res with
        | error x => exact k _ _ ⟨_, _, _, _, _, _, _, _, _, _, hS.mono, rfl, rfl⟩ σ H o
        | ok fu' => cases e
      clear hcall hres hB hwd hG ga gb gw hmem hS
      obtain ⟨fu, s7, s8, s9, s10, s11, s12, s13, s14, s15, hS, rfl, rfl⟩ := hJ
      obtain ⟨hs, xs, ws, rfl⟩ := hS.snoc
      obtain ⟨hG, hxl⟩ := hS.all (xs, ws) (List.mem_append_right _ List.mem_cons_self)
      have hlen := hS.len
      rw [List.length_append, List.length_singleton] at hlen
      have gw := hG.w
      simp only at hxl gw
      have gok : ∀ w ∈ ws, PyData.strOk w = true := fun w h => wordsL_ok _ (gw w h)
      refine q_asg2 (d1 := dI xs) (d2 := dS ws) (ev_ixL (ev_varD rfl) (ev_neg ev_int) (by rw [pstD_snoc]; exact atI_last _ _)) (fun σ H o => ?_) o
      replace o : Ok K F2 L' σ H [.dat (dScr xs0), .loc (.ref b), .dat (.int n), .dat (.int t), .loc (.ref p), .loc (.ref p'), .dat (.list (pstD (hs ++ [(xs, ws)]))), s7, .dat (dI xs), .dat (dS ws), s10, s11, s12, s13, s14, s15] ([(b, bg dr c6), (PT, .tab nmT)] ++ srM C_Search n (hs ++ [(xs, ws)]) p q ++ srM C_Search n (hs ++ [(xs, ws)]) p' q') := o
      refine q_ifF0 (et_orF (et_is (et_test (ev_neD (d1 := dI xs) (d2 := dI xs) (EvN.ev (evn_kStandsN (ev_varL rfl))) (ev_varD rfl) (sh_dI.shaped (by decide)) (sh_dI.shaped (by decide)))) (by rw [eqv_dI, decide_eq_true rfl]; rfl)) (et_orF (et_is (et_test (ev_neD (d1 := dS ws) (d2 := dS ws) (EvN.ev (evn_kAnswersN (ev_varL rfl))) (ev_varD rfl) ((sh_dS gok).shaped (by decide)) ((sh_dS gok).shaped (by decide)))) (by rw [eqv_dS, decide_eq_true rfl]; rfl)) (et_is (et_test (ev_neI (ev_kLenB (ev_varL rfl) (by omega)) (ev_lenL (EvA.cons (ev_varD rfl) EvA.nil)))) (by rw [List.length_map, decide_eq_true rfl]; rfl)))) (fun H o => ?_) o
      refine q_ifF0 (et_is (et_test (ev_neS (ev_repr (ev_kWaits (ev_varL rfl))) (ev_repr (ev_isD (ev_gt (ev_sub (ev_lenL (EvA.cons (ev_varD rfl) EvA.nil)) ev_int) (ev_lenL (EvA.cons (ev_varD rfl) EvA.nil))) (by rw [List.length_map, List.length_map]))))) (by rw [decide_eq_true rfl]; rfl)) (fun H o => ?_) o
      refine q_ifF0 (et_is (et_test (ev_neD (ev_kCanB (ev_varL rfl) (by omega) (by omega) gw) (ev_law_open (n := n) (xs := xs) (ws := ws) (ev_varD rfl) (ev_varD rfl) (ev_varD rfl) (by omega) (by omega) gw) (sh_dTI.shaped (by decide)) (sh_dTI.shaped (by decide)))) (by rw [eqv_dTI, decide_eq_true rfl]; rfl)) (fun H o => ?_) o
      refine q_appNew (evn_kStandsN (ev_varL rfl)) ev_int (by rw [List.length_map]; omega) (fun σ H o => ?_) o
      refine q_appNew (evn_kAnswersN (ev_varL rfl)) ev_int (by rw [List.length_map]; have := hG.a; simp only at this; omega) (fun σ H o => ?_) o
      refine s_ifF0 (et_orF (et_is (et_not (et_test (ev_kEq Is gok gok (ev_varL rfl) (ev_varL rfl)))) (by simp)) (et_test (ev_kEqL Is gok (ev_varL rfl) (ev_varD rfl)))) (fun H o => ?_) o
      exact ⟨_, _, ⟨hs ++ [(xs, ws)], c6, _, _, _, _, _, _, _, _, _, hS, hc6, rfl, rfl⟩, o⟩
    · obtain ⟨fu, c, s7, s8, s9, s10, s11, s12, s13, s14, s15, hS, hc, rfl, rfl⟩ := hJ
      obtain ⟨hs, xs, ws, rfl⟩ := hS.snoc
      obtain ⟨hG, hxl⟩ := hS.all (xs, ws) (List.mem_append_right _ List.mem_cons_self)
      have gok : ∀ w ∈ ws, PyData.strOk w = true := fun w h => wordsL_ok _ (hG.w w h)
      have hlen := hS.len
      rw [List.length_append, List.length_singleton] at hlen
      have hfl : (pstD (hs ++ [(xs, ws)])).length = hs.length + 1 := by rw [List.length_map, List.length_append]; rfl
      refine q_for (n := hs.length) (item := fun i => .int (i : Nat)) (M1 := ([(b, bg dr c), (PT, .tab nmT)] ++ srM C_Search n (hs ++ [(xs, ws)]) p q ++ srM C_Search n (hs ++ [(xs, ws)]) p' q')) (fun i ρ M => ∃ s7 : Sl, ρ = [.dat (dScr xs0), .loc (.ref b), .dat (.int n), .dat (.int t), .loc (.ref p), .loc (.ref p'), .dat (.list (pstD (hs ++ [(xs, ws)]))), s7, s8, s9, s10, s11, s12, s13, s14, s15] ∧ M = ([(b, bg dr c), (PT, .tab nmT)] ++ srM C_Search n ((hs ++ [(xs, ws)]).take (hs.length + 1 - i)) p q ++ srM C_Search n (hs ++ [(xs, ws)]) p' q')) ?ei (by wtm_at "eg") ⟨s7, rfl, by rw [Nat.sub_zero, List.take_of_length_le (by simp)]⟩ (fun F2 sF j hj ρ M hJ σ H o => ?_) (fun ρ M hJ σ H o => ?_) o
      case ei =>
        have h := ei_rng1 (K := K) (ρ := [.dat (dScr xs0), .loc (.ref b), .dat (.int n), .dat (.int t), .loc (.ref p), .loc (.ref p'), .dat (.list (pstD (hs ++ [(xs, ws)]))), s7, s8, s9, s10, s11, s12, s13, s14, s15]) (M := ([(b, bg dr c), (PT, .tab nmT)] ++ srM C_Search n (hs ++ [(xs, ws)]) p q ++ srM C_Search n (hs ++ [(xs, ws)]) p' q')) (M1 := ([(b, bg dr c), (PT, .tab nmT)] ++ srM C_Search n (hs ++ [(xs, ws)]) p q ++ srM C_Search n (hs ++ [(xs, ws)]) p' q')) (j := (hs.length : Int)) (tr := tCons (tOp (rI0 fun i j => .int (i - j)) (tCB (rLen K) (tCons (tVar 6) tNil)) (tC (.int 1))) tNil) (EvA.cons (ev_isD (ev_sub (ev_lenL (EvA.cons (ev_varD rfl) EvA.nil)) ev_int) (by rw [hfl]; congr 1; omega)) EvA.nil) (by omega) (by omega)
        exact h
      · obtain ⟨s7, rfl, rfl⟩ := hJ
        obtain ⟨hh, eh⟩ : ∃ hh, (hs ++ [(xs, ws)]).take (hs.length + 1 - j) = (hs ++ [(xs, ws)]).take (hs.length + 1 - (j + 1)) ++ [hh] := by
          have hk : hs.length + 1 - (j + 1) < (hs ++ [(xs, ws)]).length := by simp; omega
          refine ⟨(hs ++ [(xs, ws)])[hs.length + 1 - (j + 1)], ?_⟩
          rw [show hs.length + 1 - j = hs.length + 1 - (j + 1) + 1 by omega, List.take_succ_eq_append_getElem hk]
        have hne : (hs ++ [(xs, ws)]).take (hs.length + 1 - (j + 1)) ≠ [] := fun z => by
          have := congrArg List.length z
          rw [List.length_take] at this
          simp at this; omega
        rw [eh] at o
        refine s_drop (M1 := ([(b, bg dr c), (PT, .tab nmT)] ++ srM C_Search n ((hs ++ [(xs, ws)]).take (hs.length + 1 - (j + 1))) p q ++ srM C_Search n (hs ++ [(xs, ws)]) p' q')) (ev_kBack hne (ev_varL rfl)) (fun σ H o => ⟨_, _, ⟨.dat (.int (j : Nat)), rfl, rfl⟩, o⟩) o
      · obtain ⟨s7, rfl, rfl⟩ := hJ
        have e1 : (hs ++ [(xs, ws)]).take (hs.length + 1 - hs.length) = [([], [])] := by
          have h0 := hS.hd
          rw [show hs.length + 1 - hs.length = 1 by omega]
          cases hx : hs ++ [(xs, ws)] with
          | nil => rw [hx] at h0; cases h0
          | cons a l =>
            rw [hx] at h0
            have : a = ([], []) := by simpa using h0
            rw [this]; rfl
        rw [e1] at o
        replace o : Ok K F' L' σ H [.dat (dScr xs0), .loc (.ref b), .dat (.int n), .dat (.int t), .loc (.ref p), .loc (.ref p'), .dat (.list (pstD (hs ++ [(xs, ws)]))), s7, s8, s9, s10, s11, s12, s13, s14, s15] ([(b, bg dr c), (PT, .tab nmT)] ++ srM C_Search n ([] ++ [([], [])]) p q ++ srM C_Search n (hs ++ [(xs, ws)]) p' q') := o
        have hn0 : ∀ w ∈ ([] : List Str), PyData.strOk w = true := fun w h => (List.not_mem_nil h).elim
        refine s_ifF0 (et_orF (et_is (et_not (et_test (ev_eqMake (b := true) (ds := [.int n]) (M0 := srM C_Search n ([] ++ [([], [])]) p q) Is.sl (ev_varL rfl) mem_srB0 (EvA.cons (ev_varD rfl) EvA.nil) ⟨n, rfl, by omega, rfl, rfl⟩ subB (fun p2 q2 => ⟨p, q, n, [], [], [], hn0, rfl, .inl ⟨p2, q2, n, [], [], [], hn0, rfl, rfl, by simp⟩⟩)))) rfl) (et_is (et_test (ev_neB (ev_kEq Is hn0 gok (ev_varL rfl) (ev_varL rfl)) (ev_eqD (d1 := stD (xs, ws)) (d2 := stD ([], [])) (ev_ixL (ev_varD rfl) (ev_neg ev_int) (by rw [pstD_snoc]; exact atI_last _ _)) (ev_tupD (ds := [.list [], .list []]) (ed_cons (EvN.ev (evn_lst (ds := []) EvA.nil)) (ed_cons (EvN.ev (evn_lst (ds := []) EvA.nil)) ed_nil)) (by simp)) ((sh_stD gok).shaped (by decide)) ((sh_stD hn0).shaped (by decide))))) ?_)) (fun H o => ?_) o
        · rw [eqv_stD]
          simp [eq_comm]
        exact hnx _ _ _ _ ⟨_, _, _, _, _, _, _, _, _, _, _, _, _, _, _, rfl⟩ (by simp) o
  · obtain ⟨s1, s2, s3, s4, s5, s6, s7, s8, s9, s10, s11, s12, s13, s14, s15, rfl⟩ := hJ
    have hn0 : ∀ w ∈ ([] : List Str), PyData.strOk w = true := fun w h => (List.not_mem_nil h).elim
    exact s_retTrue (ev_isD (ev_notV (ev_eqNew2 (b := false) (ds1 := [.int 3]) (ds2 := [.int 4]) Is.sl (fun M => EvA.cons ev_int EvA.nil) ⟨3, rfl, by omega, rfl, rfl⟩ (fun M => EvA.cons ev_int EvA.nil) ⟨4, rfl, by omega, rfl, rfl⟩ (fun p q p2 q2 => ⟨p, q, 3, [], [], [], hn0, rfl, .inl ⟨p2, q2, 4, [], [], [], hn0, rfl, rfl, rfl⟩⟩))) rfl) hrt o
def ceOf (a b c d e : Addr) : CE
  | .place => a
  | .now => b
  | .ans => c
  | .never => d
  | .left => e
/-- which of the classes D is -/
def rowB (K : PySem.W.Frag) (D : Addr) (es : List Addr) (i : Nat) : Bool := es.zipIdx.all fun x => PySem.W.kitOne K (.ref D) (.ref x.1) == some (decide (i = x.2))
theorem rowB_at {K : PySem.W.Frag} {D : Addr} {es : List Addr} {i : Nat} (h : rowB K D es i = true) : ∀ (j : Nat) (c : Addr), es[j]? = some c → PySem.W.kitOne K (.ref D) (.ref c) = some (decide (i = j)) := fun j c hj => by
  unfold rowB at h
  rw [List.all_eq_true] at h
  have z := h (c, j) (List.mem_zipIdx_iff_getElem?.mpr hj)
  exact eq_of_beq z

end
theorem all_mk {l : PySem.W.OpenLaw} {w : World} {K : PySem.W.Frag} {h : Heap} {mg : Str → Option Value} {fa f0 f1 f2 f3 f4 f5 f6 f7 f8 f9 f10 f11 f12 f13 f14 f15 f16 f17 f18 f19 f20 : Addr} (X : K.In h) (G : h.Ns mainGlobals mg) (hfa : mg "law" = some (.ref fa)) (own : LamX.OwnTab K fa h)
    {od0 an0 : Option Addr} {sl0 : Array (Option Value)} {oc0 kV0 dc0 pm0 ct0 : Value}
    {cd0 : Value}
    (a0 : PySem.W.nsIn K mainGlobals "is_within" = some (some (.ref f0)))
    (l0 : K.lookup f0 = some ⟨oc0, od0, .func (PySem.W.fnOf "is_within" "is_within" (defArgs s_is_within) (defBody s_is_within) (defScope s_is_within) .none kV0 dc0 pm0 an0 cd0 ct0), sl0⟩)
    (c0 : PySem.W.codeIn K cd0 "is_within" = true)
    (k0 : PySem.W.keepIn K (.ref f0) = true)
    {od1 an1 : Option Addr} {sl1 : Array (Option Value)} {oc1 kV1 dc1 pm1 ct1 : Value}
    {cd1 : Value}
    (a1 : PySem.W.nsIn K mainGlobals "need_length" = some (some (.ref f1)))
    (l1 : K.lookup f1 = some ⟨oc1, od1, .func (PySem.W.fnOf "need_length" "need_length" (defArgs s_need_length) (defBody s_need_length) (defScope s_need_length) .none kV1 dc1 pm1 an1 cd1 ct1), sl1⟩)
    (c1 : PySem.W.codeIn K cd1 "need_length" = true)
    (k1 : PySem.W.keepIn K (.ref f1) = true)
    {od2 an2 : Option Addr} {sl2 : Array (Option Value)} {oc2 kV2 dc2 pm2 ct2 : Value}
    {cd2 : Value}
    (a2 : PySem.W.nsIn K mainGlobals "need_place" = some (some (.ref f2)))
    (l2 : K.lookup f2 = some ⟨oc2, od2, .func (PySem.W.fnOf "need_place" "need_place" (defArgs s_need_place) (defBody s_need_place) (defScope s_need_place) .none kV2 dc2 pm2 an2 cd2 ct2), sl2⟩)
    (c2 : PySem.W.codeIn K cd2 "need_place" = true)
    (k2 : PySem.W.keepIn K (.ref f2) = true)
    {od3 an3 : Option Addr} {sl3 : Array (Option Value)} {oc3 kV3 dc3 pm3 ct3 : Value}
    {cd3 : Value}
    (a3 : PySem.W.nsIn K mainGlobals "is_answer" = some (some (.ref f3)))
    (l3 : K.lookup f3 = some ⟨oc3, od3, .func (PySem.W.fnOf "is_answer" "is_answer" (defArgs s_is_answer) (defBody s_is_answer) (defScope s_is_answer) .none kV3 dc3 pm3 an3 cd3 ct3), sl3⟩)
    (c3 : PySem.W.codeIn K cd3 "is_answer" = true)
    (k3 : PySem.W.keepIn K (.ref f3) = true)
    {od4 an4 : Option Addr} {sl4 : Array (Option Value)} {oc4 kV4 dc4 pm4 ct4 : Value}
    {cd4 : Value}
    (a4 : PySem.W.nsIn K mainGlobals "word_for" = some (some (.ref f4)))
    (l4 : K.lookup f4 = some ⟨oc4, od4, .func (PySem.W.fnOf "word_for" "word_for" (defArgs s_word_for) (defBody s_word_for) (defScope s_word_for) .none kV4 dc4 pm4 an4 cd4 ct4), sl4⟩)
    (c4 : PySem.W.codeIn K cd4 "word_for" = true)
    (k4 : PySem.W.keepIn K (.ref f4) = true)
    {od5 an5 : Option Addr} {sl5 : Array (Option Value)} {oc5 kV5 dc5 pm5 ct5 : Value}
    {cd5 : Value}
    (a5 : PySem.W.nsIn K mainGlobals "answer" = some (some (.ref f5)))
    (l5 : K.lookup f5 = some ⟨oc5, od5, .func (PySem.W.fnOf "answer" "answer" (defArgs s_answer) (defBody s_answer) (defScope s_answer) .none kV5 dc5 pm5 an5 cd5 ct5), sl5⟩)
    (c5 : PySem.W.codeIn K cd5 "answer" = true)
    (k5 : PySem.W.keepIn K (.ref f5) = true)
    {od6 an6 : Option Addr} {sl6 : Array (Option Value)} {oc6 kV6 dc6 pm6 ct6 : Value}
    {cd6 : Value}
    (a6 : PySem.W.nsIn K mainGlobals "all_answers" = some (some (.ref f6)))
    (l6 : K.lookup f6 = some ⟨oc6, od6, .func (PySem.W.fnOf "all_answers" "all_answers" (defArgs s_all_answers) (defBody s_all_answers) (defScope s_all_answers) .none kV6 dc6 pm6 an6 cd6 ct6), sl6⟩)
    (c6 : PySem.W.codeIn K cd6 "all_answers" = true)
    (k6 : PySem.W.keepIn K (.ref f6) = true)
    {od7 an7 : Option Addr} {sl7 : Array (Option Value)} {oc7 kV7 dc7 pm7 ct7 : Value}
    {cd7 : Value}
    (a7 : PySem.W.nsIn K mainGlobals "places_for" = some (some (.ref f7)))
    (l7 : K.lookup f7 = some ⟨oc7, od7, .func (PySem.W.fnOf "places_for" "places_for" (defArgs s_places_for) (defBody s_places_for) (defScope s_places_for) .none kV7 dc7 pm7 an7 cd7 ct7), sl7⟩)
    (c7 : PySem.W.codeIn K cd7 "places_for" = true)
    (k7 : PySem.W.keepIn K (.ref f7) = true)
    {od8 an8 : Option Addr} {sl8 : Array (Option Value)} {oc8 kV8 dc8 pm8 ct8 : Value}
    {cd8 : Value}
    (a8 : PySem.W.nsIn K mainGlobals "_law_cell_at" = some (some (.ref f8)))
    (l8 : K.lookup f8 = some ⟨oc8, od8, .func (PySem.W.fnOf "_law_cell_at" "_law_cell_at" (defArgs s_law_cell_at) (defBody s_law_cell_at) (defScope s_law_cell_at) .none kV8 dc8 pm8 an8 cd8 ct8), sl8⟩)
    (c8 : PySem.W.codeIn K cd8 "_law_cell_at" = true)
    (k8 : PySem.W.keepIn K (.ref f8) = true)
    {od9 an9 : Option Addr} {sl9 : Array (Option Value)} {oc9 kV9 dc9 pm9 ct9 : Value}
    {cd9 : Value}
    (a9 : PySem.W.nsIn K mainGlobals "_law_draws" = some (some (.ref f9)))
    (l9 : K.lookup f9 = some ⟨oc9, od9, .func (PySem.W.fnOf "_law_draws" "_law_draws" (defArgs s_law_draws) (defBody s_law_draws) (defScope s_law_draws) .none kV9 dc9 pm9 an9 cd9 ct9), sl9⟩)
    (c9 : PySem.W.codeIn K cd9 "_law_draws" = true)
    (k9 : PySem.W.keepIn K (.ref f9) = true)
    {od10 an10 : Option Addr} {sl10 : Array (Option Value)} {oc10 kV10 dc10 pm10 ct10 : Value}
    {cd10 : Value}
    (a10 : PySem.W.nsIn K mainGlobals "_law_from" = some (some (.ref f10)))
    (l10 : K.lookup f10 = some ⟨oc10, od10, .func (PySem.W.fnOf "_law_from" "_law_from" (defArgs s_law_from) (defBody s_law_from) (defScope s_law_from) .none kV10 dc10 pm10 an10 cd10 ct10), sl10⟩)
    (c10 : PySem.W.codeIn K cd10 "_law_from" = true)
    (k10 : PySem.W.keepIn K (.ref f10) = true)
    {od11 an11 : Option Addr} {sl11 : Array (Option Value)} {oc11 kV11 dc11 pm11 ct11 : Value}
    {cd11 : Value}
    (a11 : PySem.W.nsIn K mainGlobals "_law_bag" = some (some (.ref f11)))
    (l11 : K.lookup f11 = some ⟨oc11, od11, .func (PySem.W.fnOf "_law_bag" "_law_bag" (defArgs s_law_bag) (defBody s_law_bag) (defScope s_law_bag) .none kV11 dc11 pm11 an11 cd11 ct11), sl11⟩)
    (c11 : PySem.W.codeIn K cd11 "_law_bag" = true)
    (k11 : PySem.W.keepIn K (.ref f11) = true)
    {od12 an12 : Option Addr} {sl12 : Array (Option Value)} {oc12 kV12 dc12 pm12 ct12 : Value}
    {cd12 : Value}
    (a12 : PySem.W.nsIn K mainGlobals "_law_bags" = some (some (.ref f12)))
    (l12 : K.lookup f12 = some ⟨oc12, od12, .func (PySem.W.fnOf "_law_bags" "_law_bags" (defArgs s_law_bags) (defBody s_law_bags) (defScope s_law_bags) .none kV12 dc12 pm12 an12 cd12 ct12), sl12⟩)
    (c12 : PySem.W.codeIn K cd12 "_law_bags" = true)
    (k12 : PySem.W.keepIn K (.ref f12) = true)
    {od13 an13 : Option Addr} {sl13 : Array (Option Value)} {oc13 kV13 dc13 pm13 ct13 : Value}
    {cd13 : Value}
    (a13 : PySem.W.nsIn K mainGlobals "_law_take" = some (some (.ref f13)))
    (l13 : K.lookup f13 = some ⟨oc13, od13, .func (PySem.W.fnOf "_law_take" "_law_take" (defArgs s_law_take) (defBody s_law_take) (defScope s_law_take) .none kV13 dc13 pm13 an13 cd13 ct13), sl13⟩)
    (c13 : PySem.W.codeIn K cd13 "_law_take" = true)
    (k13 : PySem.W.keepIn K (.ref f13) = true)
    {od14 an14 : Option Addr} {sl14 : Array (Option Value)} {oc14 kV14 dc14 pm14 ct14 : Value}
    {cd14 : Value}
    (a14 : PySem.W.nsIn K mainGlobals "_law_word" = some (some (.ref f14)))
    (l14 : K.lookup f14 = some ⟨oc14, od14, .func (PySem.W.fnOf "_law_word" "_law_word" (defArgs s_law_word) (defBody s_law_word) (defScope s_law_word) .none kV14 dc14 pm14 an14 cd14 ct14), sl14⟩)
    (c14 : PySem.W.codeIn K cd14 "_law_word" = true)
    (k14 : PySem.W.keepIn K (.ref f14) = true)
    {od15 an15 : Option Addr} {sl15 : Array (Option Value)} {oc15 kV15 dc15 pm15 ct15 : Value}
    {cd15 : Value}
    (a15 : PySem.W.nsIn K mainGlobals "_law_words" = some (some (.ref f15)))
    (l15 : K.lookup f15 = some ⟨oc15, od15, .func (PySem.W.fnOf "_law_words" "_law_words" (defArgs s_law_words) (defBody s_law_words) (defScope s_law_words) .none kV15 dc15 pm15 an15 cd15 ct15), sl15⟩)
    (c15 : PySem.W.codeIn K cd15 "_law_words" = true)
    (k15 : PySem.W.keepIn K (.ref f15) = true)
    {od16 an16 : Option Addr} {sl16 : Array (Option Value)} {oc16 kV16 dc16 pm16 ct16 : Value}
    {cd16 : Value}
    (a16 : PySem.W.nsIn K mainGlobals "_law_refused" = some (some (.ref f16)))
    (l16 : K.lookup f16 = some ⟨oc16, od16, .func (PySem.W.fnOf "_law_refused" "_law_refused" (defArgs s_law_refused) (defBody s_law_refused) (defScope s_law_refused) .none kV16 dc16 pm16 an16 cd16 ct16), sl16⟩)
    (c16 : PySem.W.codeIn K cd16 "_law_refused" = true)
    (k16 : PySem.W.keepIn K (.ref f16) = true)
    {od17 an17 : Option Addr} {sl17 : Array (Option Value)} {oc17 kV17 dc17 pm17 ct17 : Value}
    {cd17 : Value}
    (a17 : PySem.W.nsIn K mainGlobals "_law_open" = some (some (.ref f17)))
    (l17 : K.lookup f17 = some ⟨oc17, od17, .func (PySem.W.fnOf "_law_open" "_law_open" (defArgs s_law_open) (defBody s_law_open) (defScope s_law_open) .none kV17 dc17 pm17 an17 cd17 ct17), sl17⟩)
    (c17 : PySem.W.codeIn K cd17 "_law_open" = true)
    (k17 : PySem.W.keepIn K (.ref f17) = true)
    {od18 an18 : Option Addr} {sl18 : Array (Option Value)} {oc18 kV18 dc18 pm18 ct18 : Value}
    {cd18 : Value}
    (a18 : PySem.W.nsIn K mainGlobals "_law_after" = some (some (.ref f18)))
    (l18 : K.lookup f18 = some ⟨oc18, od18, .func (PySem.W.fnOf "_law_after" "_law_after" (defArgs s_law_after) (defBody s_law_after) (defScope s_law_after) .none kV18 dc18 pm18 an18 cd18 ct18), sl18⟩)
    (c18 : PySem.W.codeIn K cd18 "_law_after" = true)
    (k18 : PySem.W.keepIn K (.ref f18) = true)
    {od19 an19 : Option Addr} {sl19 : Array (Option Value)} {oc19 kV19 dc19 pm19 ct19 : Value}
    {cd19 : Value}
    (a19 : PySem.W.nsIn K mainGlobals "_law_do" = some (some (.ref f19)))
    (l19 : K.lookup f19 = some ⟨oc19, od19, .func (PySem.W.fnOf "_law_do" "_law_do" (defArgs s_law_do) (defBody s_law_do) (defScope s_law_do) .none kV19 dc19 pm19 an19 cd19 ct19), sl19⟩)
    (c19 : PySem.W.codeIn K cd19 "_law_do" = true)
    (k19 : PySem.W.keepIn K (.ref f19) = true)
    {od20 an20 : Option Addr} {sl20 : Array (Option Value)} {oc20 kV20 dc20 pm20 ct20 : Value}
    {cL : Addr}
    (a20 : PySem.W.nsIn K mainGlobals "law" = some (some (.ref f20)))
    (l20 : K.lookup f20 = some ⟨oc20, od20, .func (PySem.W.fnOf "law" "law" (defArgs s_law) (defBody s_law) (defScope s_law) .none kV20 dc20 pm20 an20 (.ref cL) ct20), sl20⟩)
    (c20 : PySem.W.codeIn K (.ref cL) "law" = true)
    (k20 : PySem.W.keepIn K (.ref f20) = true)
    {eC : Value} {ddC : Option Addr} {vsC : Array Value} {slC : Array (Option Value)} {PL : Addr}
    (lC : K.lookup cL = some ⟨eC, ddC, .fields vsC, slC⟩)
    (vC : vsC[11]? = some (.ref PL))
    (hC : PySem.W.codeHdIn K cL PL = true)
    (nC : K.lookup PL = none)
    {C_Search : Addr}
    (xSearcha : PySem.W.nsIn K mainGlobals "Search" = some (some (.ref C_Search)))
    (xSearchpg : PySem.W.plainGet K C_Search Str.empty = true)
    (xSearchhd : PySem.W.hasDictIn K C_Search = true)
    (xSearchpo : PySem.W.plainOver K C_Search = true)
    (xSearchsa : PySem.W.findIn K (.ref C_Search) "__setattr__" = some (some (.builtin "object.__setattr__")))
    (xSearchmk : PySem.W.makesIn K C_Search = true)
    (xSearchkc : PySem.W.keepIn K (.ref C_Search) = true)
    (xSearchn_length : PySem.W.findIn K (.ref C_Search) "length" = some none)
    (xSearchn_past : PySem.W.findIn K (.ref C_Search) "past" = some none)
    {fxSearch_init : Addr} {odxSearch_init anxSearch_init : Option Addr} {slxSearch_init : Array (Option Value)} {ocxSearch_init kVxSearch_init dcxSearch_init pmxSearch_init cdxSearch_init ctxSearch_init : Value}
    (axSearch_init : PySem.W.findIn K (.ref C_Search) "__init__" = some (some (.ref fxSearch_init)))
    (ixSearch_init : PySem.W.isFn K (.ref fxSearch_init) = true)
    (lxSearch_init : K.lookup fxSearch_init = some ⟨ocxSearch_init, odxSearch_init, .func (PySem.W.fnOf "__init__" "Search.__init__" (defArgs s_Search___init__) (defBody s_Search___init__) (defScope s_Search___init__) .none kVxSearch_init dcxSearch_init pmxSearch_init anxSearch_init cdxSearch_init ctxSearch_init), slxSearch_init⟩)
    (cxSearch_init : PySem.W.codeIn K cdxSearch_init "Search.__init__" = true)
    (kxSearch_init : PySem.W.keepIn K (.ref fxSearch_init) = true)
    {fxSearch_waits : Addr} {odxSearch_waits anxSearch_waits : Option Addr} {slxSearch_waits : Array (Option Value)} {ocxSearch_waits kVxSearch_waits dcxSearch_waits pmxSearch_waits cdxSearch_waits ctxSearch_waits : Value}
    (axSearch_waits : PySem.W.findIn K (.ref C_Search) "waits" = some (some (.ref fxSearch_waits)))
    (ixSearch_waits : PySem.W.isFn K (.ref fxSearch_waits) = true)
    (lxSearch_waits : K.lookup fxSearch_waits = some ⟨ocxSearch_waits, odxSearch_waits, .func (PySem.W.fnOf "waits" "Search.waits" (defArgs s_Search_waits) (defBody s_Search_waits) (defScope s_Search_waits) .none kVxSearch_waits dcxSearch_waits pmxSearch_waits anxSearch_waits cdxSearch_waits ctxSearch_waits), slxSearch_waits⟩)
    (cxSearch_waits : PySem.W.codeIn K cdxSearch_waits "Search.waits" = true)
    (kxSearch_waits : PySem.W.keepIn K (.ref fxSearch_waits) = true)
    {fxSearch_stand : Addr} {odxSearch_stand anxSearch_stand : Option Addr} {slxSearch_stand : Array (Option Value)} {ocxSearch_stand kVxSearch_stand dcxSearch_stand pmxSearch_stand cdxSearch_stand ctxSearch_stand : Value}
    (axSearch_stand : PySem.W.findIn K (.ref C_Search) "stand" = some (some (.ref fxSearch_stand)))
    (ixSearch_stand : PySem.W.isFn K (.ref fxSearch_stand) = true)
    (lxSearch_stand : K.lookup fxSearch_stand = some ⟨ocxSearch_stand, odxSearch_stand, .func (PySem.W.fnOf "stand" "Search.stand" (defArgs s_Search_stand) (defBody s_Search_stand) (defScope s_Search_stand) .none kVxSearch_stand dcxSearch_stand pmxSearch_stand anxSearch_stand cdxSearch_stand ctxSearch_stand), slxSearch_stand⟩)
    (cxSearch_stand : PySem.W.codeIn K cdxSearch_stand "Search.stand" = true)
    (kxSearch_stand : PySem.W.keepIn K (.ref fxSearch_stand) = true)
    {fxSearch_answer : Addr} {odxSearch_answer anxSearch_answer : Option Addr} {slxSearch_answer : Array (Option Value)} {ocxSearch_answer kVxSearch_answer dcxSearch_answer pmxSearch_answer cdxSearch_answer ctxSearch_answer : Value}
    (axSearch_answer : PySem.W.findIn K (.ref C_Search) "answer" = some (some (.ref fxSearch_answer)))
    (ixSearch_answer : PySem.W.isFn K (.ref fxSearch_answer) = true)
    (lxSearch_answer : K.lookup fxSearch_answer = some ⟨ocxSearch_answer, odxSearch_answer, .func (PySem.W.fnOf "answer" "Search.answer" (defArgs s_Search_answer) (defBody s_Search_answer) (defScope s_Search_answer) .none kVxSearch_answer dcxSearch_answer pmxSearch_answer anxSearch_answer cdxSearch_answer ctxSearch_answer), slxSearch_answer⟩)
    (cxSearch_answer : PySem.W.codeIn K cdxSearch_answer "Search.answer" = true)
    (kxSearch_answer : PySem.W.keepIn K (.ref fxSearch_answer) = true)
    {fxSearch_back : Addr} {odxSearch_back anxSearch_back : Option Addr} {slxSearch_back : Array (Option Value)} {ocxSearch_back kVxSearch_back dcxSearch_back pmxSearch_back cdxSearch_back ctxSearch_back : Value}
    (axSearch_back : PySem.W.findIn K (.ref C_Search) "back" = some (some (.ref fxSearch_back)))
    (ixSearch_back : PySem.W.isFn K (.ref fxSearch_back) = true)
    (lxSearch_back : K.lookup fxSearch_back = some ⟨ocxSearch_back, odxSearch_back, .func (PySem.W.fnOf "back" "Search.back" (defArgs s_Search_back) (defBody s_Search_back) (defScope s_Search_back) .none kVxSearch_back dcxSearch_back pmxSearch_back anxSearch_back cdxSearch_back ctxSearch_back), slxSearch_back⟩)
    (cxSearch_back : PySem.W.codeIn K cdxSearch_back "Search.back" = true)
    (kxSearch_back : PySem.W.keepIn K (.ref fxSearch_back) = true)
    {fxSearch_stands : Addr} {odxSearch_stands anxSearch_stands : Option Addr} {slxSearch_stands : Array (Option Value)} {ocxSearch_stands kVxSearch_stands dcxSearch_stands pmxSearch_stands cdxSearch_stands ctxSearch_stands : Value}
    (axSearch_stands : PySem.W.findIn K (.ref C_Search) "stands" = some (some (.ref fxSearch_stands)))
    (ixSearch_stands : PySem.W.isFn K (.ref fxSearch_stands) = true)
    (lxSearch_stands : K.lookup fxSearch_stands = some ⟨ocxSearch_stands, odxSearch_stands, .func (PySem.W.fnOf "stands" "Search.stands" (defArgs s_Search_stands) (defBody s_Search_stands) (defScope s_Search_stands) .none kVxSearch_stands dcxSearch_stands pmxSearch_stands anxSearch_stands cdxSearch_stands ctxSearch_stands), slxSearch_stands⟩)
    (cxSearch_stands : PySem.W.codeIn K cdxSearch_stands "Search.stands" = true)
    (kxSearch_stands : PySem.W.keepIn K (.ref fxSearch_stands) = true)
    {fxSearch_answers : Addr} {odxSearch_answers anxSearch_answers : Option Addr} {slxSearch_answers : Array (Option Value)} {ocxSearch_answers kVxSearch_answers dcxSearch_answers pmxSearch_answers cdxSearch_answers ctxSearch_answers : Value}
    (axSearch_answers : PySem.W.findIn K (.ref C_Search) "answers" = some (some (.ref fxSearch_answers)))
    (ixSearch_answers : PySem.W.isFn K (.ref fxSearch_answers) = true)
    (lxSearch_answers : K.lookup fxSearch_answers = some ⟨ocxSearch_answers, odxSearch_answers, .func (PySem.W.fnOf "answers" "Search.answers" (defArgs s_Search_answers) (defBody s_Search_answers) (defScope s_Search_answers) .none kVxSearch_answers dcxSearch_answers pmxSearch_answers anxSearch_answers cdxSearch_answers ctxSearch_answers), slxSearch_answers⟩)
    (cxSearch_answers : PySem.W.codeIn K cdxSearch_answers "Search.answers" = true)
    (kxSearch_answers : PySem.W.keepIn K (.ref fxSearch_answers) = true)
    {fxSearch_can_lie : Addr} {odxSearch_can_lie anxSearch_can_lie : Option Addr} {slxSearch_can_lie : Array (Option Value)} {ocxSearch_can_lie kVxSearch_can_lie dcxSearch_can_lie pmxSearch_can_lie cdxSearch_can_lie ctxSearch_can_lie : Value}
    (axSearch_can_lie : PySem.W.findIn K (.ref C_Search) "can_lie" = some (some (.ref fxSearch_can_lie)))
    (ixSearch_can_lie : PySem.W.isFn K (.ref fxSearch_can_lie) = true)
    (lxSearch_can_lie : K.lookup fxSearch_can_lie = some ⟨ocxSearch_can_lie, odxSearch_can_lie, .func (PySem.W.fnOf "can_lie" "Search.can_lie" (defArgs s_Search_can_lie) (defBody s_Search_can_lie) (defScope s_Search_can_lie) .none kVxSearch_can_lie dcxSearch_can_lie pmxSearch_can_lie anxSearch_can_lie cdxSearch_can_lie ctxSearch_can_lie), slxSearch_can_lie⟩)
    (cxSearch_can_lie : PySem.W.codeIn K cdxSearch_can_lie "Search.can_lie" = true)
    (kxSearch_can_lie : PySem.W.keepIn K (.ref fxSearch_can_lie) = true)
    {fxSearch_len : Addr} {odxSearch_len anxSearch_len : Option Addr} {slxSearch_len : Array (Option Value)} {ocxSearch_len kVxSearch_len dcxSearch_len pmxSearch_len cdxSearch_len ctxSearch_len : Value}
    (axSearch_len : PySem.W.findIn K (.ref C_Search) "__len__" = some (some (.ref fxSearch_len)))
    (ixSearch_len : PySem.W.isFn K (.ref fxSearch_len) = true)
    (lxSearch_len : K.lookup fxSearch_len = some ⟨ocxSearch_len, odxSearch_len, .func (PySem.W.fnOf "__len__" "Search.__len__" (defArgs s_Search___len__) (defBody s_Search___len__) (defScope s_Search___len__) .none kVxSearch_len dcxSearch_len pmxSearch_len anxSearch_len cdxSearch_len ctxSearch_len), slxSearch_len⟩)
    (cxSearch_len : PySem.W.codeIn K cdxSearch_len "Search.__len__" = true)
    (kxSearch_len : PySem.W.keepIn K (.ref fxSearch_len) = true)
    {fxSearch_eq : Addr} {odxSearch_eq anxSearch_eq : Option Addr} {slxSearch_eq : Array (Option Value)} {ocxSearch_eq kVxSearch_eq dcxSearch_eq pmxSearch_eq cdxSearch_eq ctxSearch_eq : Value}
    (axSearch_eq : PySem.W.findIn K (.ref C_Search) "__eq__" = some (some (.ref fxSearch_eq)))
    (ixSearch_eq : PySem.W.isFn K (.ref fxSearch_eq) = true)
    (lxSearch_eq : K.lookup fxSearch_eq = some ⟨ocxSearch_eq, odxSearch_eq, .func (PySem.W.fnOf "__eq__" "Search.__eq__" (defArgs s_Search___eq__) (defBody s_Search___eq__) (defScope s_Search___eq__) .none kVxSearch_eq dcxSearch_eq pmxSearch_eq anxSearch_eq cdxSearch_eq ctxSearch_eq), slxSearch_eq⟩)
    (cxSearch_eq : PySem.W.codeIn K cdxSearch_eq "Search.__eq__" = true)
    (kxSearch_eq : PySem.W.keepIn K (.ref fxSearch_eq) = true)
    (is1 : PySem.W.findIn K (.ref C_Search) "__class__" = some (some (.builtin "object.__class__")))
    (is2 : PySem.W.specialIn K (.builtin "object.__class__") "__get__" = some (some (.builtin "getset_descriptor.__get__")))
    (is3 : PySem.W.takesIn K (.builtin "object.__class__") = some true)
    (is4 : PySem.W.mroIn K C_Search (.type "object") = some true)
    (is5 : PySem.W.kitOne K (.ref C_Search) (.ref C_Search) = some true)
    (is6 : PySem.W.kitOne K (.type "list") (.ref C_Search) = some false)
    (is7 : PySem.W.subIn K (.type "list") (.ref C_Search) = some false)
    {C_NoLength C_NoPlace C_NotNow C_NoStands C_NoAnswers C_NoStretch C_NoAnswer C_Never C_NothingLeft C_TooLong C_SeekError : Addr}
    (gNoLength : PySem.W.nsIn K mainGlobals "NoLength" = some (some (.ref C_NoLength)))
    (gNoPlace : PySem.W.nsIn K mainGlobals "NoPlace" = some (some (.ref C_NoPlace)))
    (gNotNow : PySem.W.nsIn K mainGlobals "NotNow" = some (some (.ref C_NotNow)))
    (gNoStands : PySem.W.nsIn K mainGlobals "NoStands" = some (some (.ref C_NoStands)))
    (gNoAnswers : PySem.W.nsIn K mainGlobals "NoAnswers" = some (some (.ref C_NoAnswers)))
    (gNoStretch : PySem.W.nsIn K mainGlobals "NoStretch" = some (some (.ref C_NoStretch)))
    (gNoAnswer : PySem.W.nsIn K mainGlobals "NoAnswer" = some (some (.ref C_NoAnswer)))
    (gNever : PySem.W.nsIn K mainGlobals "Never" = some (some (.ref C_Never)))
    (gNothingLeft : PySem.W.nsIn K mainGlobals "NothingLeft" = some (some (.ref C_NothingLeft)))
    (gTooLong : PySem.W.nsIn K mainGlobals "TooLong" = some (some (.ref C_TooLong)))
    (gSeekError : PySem.W.nsIn K mainGlobals "SeekError" = some (some (.ref C_SeekError)))
    (e1NoPlace : PySem.W.excIn K C_NoPlace [.type "ValueError", .type "Exception", .type "BaseException", .type "object"] "ValueError.__new__" = true)
    (e2NoPlace : PySem.W.keepIn K (.ref C_NoPlace) = true)
    (e3NoPlace : PySem.W.subIn K (.ref C_NoPlace) (.type "BaseException") = some true)
    (e4NoPlace : PySem.W.typeIn K (.ref C_NoPlace) = some (.type "type"))
    (x1NoPlace : PySem.W.findIn K (.ref C_NoPlace) "__getattribute__" = some (some (.builtin "BaseException.__getattribute__")))
    (x2NoPlace : PySem.W.findIn K (.ref C_NoPlace) "__getattr__" = some none)
    (x4NoPlace : PySem.W.hasDictIn K C_NoPlace = true)
    (x5NoPlace : PySem.W.findIn K (.ref C_NoPlace) "__class__" = some (some (.builtin "object.__class__")))
    (x8NoPlace : PySem.W.mroIn K C_NoPlace (.type "object") = some true)
    (r1NoPlace : PySem.W.exmOne K (.ref C_NoPlace) (.ref C_TooLong) = some false)
    (r2NoPlace : PySem.W.exmOne K (.ref C_NoPlace) (.ref C_SeekError) = some true)
    (r3NoPlace : PySem.W.kitOne K (.ref C_NoPlace) (.type "ValueError") = some true)
    (r4NoPlace : rowB K C_NoPlace [C_NoLength, C_NoPlace, C_NotNow, C_NoStands, C_NoAnswers, C_NoStretch, C_NoAnswer, C_Never, C_NothingLeft] 1 = true)
    (e1NotNow : PySem.W.excIn K C_NotNow [.type "ValueError", .type "Exception", .type "BaseException", .type "object"] "ValueError.__new__" = true)
    (e2NotNow : PySem.W.keepIn K (.ref C_NotNow) = true)
    (e3NotNow : PySem.W.subIn K (.ref C_NotNow) (.type "BaseException") = some true)
    (e4NotNow : PySem.W.typeIn K (.ref C_NotNow) = some (.type "type"))
    (x1NotNow : PySem.W.findIn K (.ref C_NotNow) "__getattribute__" = some (some (.builtin "BaseException.__getattribute__")))
    (x2NotNow : PySem.W.findIn K (.ref C_NotNow) "__getattr__" = some none)
    (x4NotNow : PySem.W.hasDictIn K C_NotNow = true)
    (x5NotNow : PySem.W.findIn K (.ref C_NotNow) "__class__" = some (some (.builtin "object.__class__")))
    (x8NotNow : PySem.W.mroIn K C_NotNow (.type "object") = some true)
    (r1NotNow : PySem.W.exmOne K (.ref C_NotNow) (.ref C_TooLong) = some false)
    (r2NotNow : PySem.W.exmOne K (.ref C_NotNow) (.ref C_SeekError) = some true)
    (r3NotNow : PySem.W.kitOne K (.ref C_NotNow) (.type "ValueError") = some true)
    (r4NotNow : rowB K C_NotNow [C_NoLength, C_NoPlace, C_NotNow, C_NoStands, C_NoAnswers, C_NoStretch, C_NoAnswer, C_Never, C_NothingLeft] 2 = true)
    (e1NoAnswer : PySem.W.excIn K C_NoAnswer [.type "ValueError", .type "Exception", .type "BaseException", .type "object"] "ValueError.__new__" = true)
    (e2NoAnswer : PySem.W.keepIn K (.ref C_NoAnswer) = true)
    (e3NoAnswer : PySem.W.subIn K (.ref C_NoAnswer) (.type "BaseException") = some true)
    (e4NoAnswer : PySem.W.typeIn K (.ref C_NoAnswer) = some (.type "type"))
    (x1NoAnswer : PySem.W.findIn K (.ref C_NoAnswer) "__getattribute__" = some (some (.builtin "BaseException.__getattribute__")))
    (x2NoAnswer : PySem.W.findIn K (.ref C_NoAnswer) "__getattr__" = some none)
    (x4NoAnswer : PySem.W.hasDictIn K C_NoAnswer = true)
    (x5NoAnswer : PySem.W.findIn K (.ref C_NoAnswer) "__class__" = some (some (.builtin "object.__class__")))
    (x8NoAnswer : PySem.W.mroIn K C_NoAnswer (.type "object") = some true)
    (r1NoAnswer : PySem.W.exmOne K (.ref C_NoAnswer) (.ref C_TooLong) = some false)
    (r2NoAnswer : PySem.W.exmOne K (.ref C_NoAnswer) (.ref C_SeekError) = some true)
    (r3NoAnswer : PySem.W.kitOne K (.ref C_NoAnswer) (.type "ValueError") = some true)
    (r4NoAnswer : rowB K C_NoAnswer [C_NoLength, C_NoPlace, C_NotNow, C_NoStands, C_NoAnswers, C_NoStretch, C_NoAnswer, C_Never, C_NothingLeft] 6 = true)
    (e1Never : PySem.W.excIn K C_Never [.type "ValueError", .type "Exception", .type "BaseException", .type "object"] "ValueError.__new__" = true)
    (e2Never : PySem.W.keepIn K (.ref C_Never) = true)
    (e3Never : PySem.W.subIn K (.ref C_Never) (.type "BaseException") = some true)
    (e4Never : PySem.W.typeIn K (.ref C_Never) = some (.type "type"))
    (x1Never : PySem.W.findIn K (.ref C_Never) "__getattribute__" = some (some (.builtin "BaseException.__getattribute__")))
    (x2Never : PySem.W.findIn K (.ref C_Never) "__getattr__" = some none)
    (x4Never : PySem.W.hasDictIn K C_Never = true)
    (x5Never : PySem.W.findIn K (.ref C_Never) "__class__" = some (some (.builtin "object.__class__")))
    (x8Never : PySem.W.mroIn K C_Never (.type "object") = some true)
    (r1Never : PySem.W.exmOne K (.ref C_Never) (.ref C_TooLong) = some false)
    (r2Never : PySem.W.exmOne K (.ref C_Never) (.ref C_SeekError) = some true)
    (r3Never : PySem.W.kitOne K (.ref C_Never) (.type "ValueError") = some true)
    (r4Never : rowB K C_Never [C_NoLength, C_NoPlace, C_NotNow, C_NoStands, C_NoAnswers, C_NoStretch, C_NoAnswer, C_Never, C_NothingLeft] 7 = true)
    (e1NothingLeft : PySem.W.excIn K C_NothingLeft [.type "ValueError", .type "Exception", .type "BaseException", .type "object"] "ValueError.__new__" = true)
    (e2NothingLeft : PySem.W.keepIn K (.ref C_NothingLeft) = true)
    (e3NothingLeft : PySem.W.subIn K (.ref C_NothingLeft) (.type "BaseException") = some true)
    (e4NothingLeft : PySem.W.typeIn K (.ref C_NothingLeft) = some (.type "type"))
    (x1NothingLeft : PySem.W.findIn K (.ref C_NothingLeft) "__getattribute__" = some (some (.builtin "BaseException.__getattribute__")))
    (x2NothingLeft : PySem.W.findIn K (.ref C_NothingLeft) "__getattr__" = some none)
    (x4NothingLeft : PySem.W.hasDictIn K C_NothingLeft = true)
    (x5NothingLeft : PySem.W.findIn K (.ref C_NothingLeft) "__class__" = some (some (.builtin "object.__class__")))
    (x8NothingLeft : PySem.W.mroIn K C_NothingLeft (.type "object") = some true)
    (r1NothingLeft : PySem.W.exmOne K (.ref C_NothingLeft) (.ref C_TooLong) = some false)
    (r2NothingLeft : PySem.W.exmOne K (.ref C_NothingLeft) (.ref C_SeekError) = some true)
    (r3NothingLeft : PySem.W.kitOne K (.ref C_NothingLeft) (.type "ValueError") = some true)
    (r4NothingLeft : rowB K C_NothingLeft [C_NoLength, C_NoPlace, C_NotNow, C_NoStands, C_NoAnswers, C_NoStretch, C_NoAnswer, C_Never, C_NothingLeft] 8 = true)
    (z_abs : PySem.W.nsIn K mainGlobals "abs" = some none)
    (z_all : PySem.W.nsIn K mainGlobals "all" = some none)
    (z_enumerate : PySem.W.nsIn K mainGlobals "enumerate" = some none)
    (z_int : PySem.W.nsIn K mainGlobals "int" = some none)
    (z_isinstance : PySem.W.nsIn K mainGlobals "isinstance" = some none)
    (z_len : PySem.W.nsIn K mainGlobals "len" = some none)
    (z_list : PySem.W.nsIn K mainGlobals "list" = some none)
    (z_max : PySem.W.nsIn K mainGlobals "max" = some none)
    (z_min : PySem.W.nsIn K mainGlobals "min" = some none)
    (z_range : PySem.W.nsIn K mainGlobals "range" = some none)
    (z_set : PySem.W.nsIn K mainGlobals "set" = some none)
    (z_sorted : PySem.W.nsIn K mainGlobals "sorted" = some none)
    (z_str : PySem.W.nsIn K mainGlobals "str" = some none)
    (z_tuple : PySem.W.nsIn K mainGlobals "tuple" = some none)
    (z_zip : PySem.W.nsIn K mainGlobals "zip" = some none)
    (z_bool : PySem.W.nsIn K mainGlobals "bool" = some none)
    (z_repr : PySem.W.nsIn K mainGlobals "repr" = some none)
    (z_ValueError : PySem.W.nsIn K mainGlobals "ValueError" = some none)
    {aW : Addr} {oW : Obj}
    (aWd : PySem.W.nsIn K mainGlobals "WORDS" = some (some (.ref aW)))
    (lWd : K.lookup aW = some oW)
    (qWd : wordsObj oW = true)
    : LamX.LawAtS l w K CX0 22 63 "script" mg fa h := by
  have e := hfa.symm.trans (PySem.W.mg_of X G a20)
  cases e
  have B : Bl mg := ⟨PySem.W.mg_none_of X G z_abs, PySem.W.mg_none_of X G z_all, PySem.W.mg_none_of X G z_enumerate, PySem.W.mg_none_of X G z_int, PySem.W.mg_none_of X G z_isinstance, PySem.W.mg_none_of X G z_len, PySem.W.mg_none_of X G z_list, PySem.W.mg_none_of X G z_max, PySem.W.mg_none_of X G z_min, PySem.W.mg_none_of X G z_range, PySem.W.mg_none_of X G z_set, PySem.W.mg_none_of X G z_sorted, PySem.W.mg_none_of X G z_str, PySem.W.mg_none_of X G z_tuple, PySem.W.mg_none_of X G z_zip, PySem.W.mg_none_of X G z_bool, PySem.W.mg_none_of X G z_repr, PySem.W.mg_none_of X G z_ValueError⟩
  have gW := PySem.W.mg_of X G aWd
  have qW := wordsAt_of lWd qWd
  have E_NoPlace : ErrC K mg "NoPlace" C_NoPlace := ⟨PySem.W.mg_of X G gNoPlace, e1NoPlace, e2NoPlace, e3NoPlace, e4NoPlace⟩
  have F_NoPlace : RefE K C_TooLong C_SeekError [C_NoLength, C_NoPlace, C_NotNow, C_NoStands, C_NoAnswers, C_NoStretch, C_NoAnswer, C_Never, C_NothingLeft] C_NoPlace "NoPlace" := ⟨⟨x1NoPlace, x2NoPlace, e3NoPlace, x4NoPlace, x5NoPlace, is2, is3, x8NoPlace⟩, r1NoPlace, r2NoPlace, r3NoPlace, 1, rfl, rowB_at r4NoPlace⟩
  have E_NotNow : ErrC K mg "NotNow" C_NotNow := ⟨PySem.W.mg_of X G gNotNow, e1NotNow, e2NotNow, e3NotNow, e4NotNow⟩
  have F_NotNow : RefE K C_TooLong C_SeekError [C_NoLength, C_NoPlace, C_NotNow, C_NoStands, C_NoAnswers, C_NoStretch, C_NoAnswer, C_Never, C_NothingLeft] C_NotNow "NotNow" := ⟨⟨x1NotNow, x2NotNow, e3NotNow, x4NotNow, x5NotNow, is2, is3, x8NotNow⟩, r1NotNow, r2NotNow, r3NotNow, 2, rfl, rowB_at r4NotNow⟩
  have E_NoAnswer : ErrC K mg "NoAnswer" C_NoAnswer := ⟨PySem.W.mg_of X G gNoAnswer, e1NoAnswer, e2NoAnswer, e3NoAnswer, e4NoAnswer⟩
  have F_NoAnswer : RefE K C_TooLong C_SeekError [C_NoLength, C_NoPlace, C_NotNow, C_NoStands, C_NoAnswers, C_NoStretch, C_NoAnswer, C_Never, C_NothingLeft] C_NoAnswer "NoAnswer" := ⟨⟨x1NoAnswer, x2NoAnswer, e3NoAnswer, x4NoAnswer, x5NoAnswer, is2, is3, x8NoAnswer⟩, r1NoAnswer, r2NoAnswer, r3NoAnswer, 6, rfl, rowB_at r4NoAnswer⟩
  have E_Never : ErrC K mg "Never" C_Never := ⟨PySem.W.mg_of X G gNever, e1Never, e2Never, e3Never, e4Never⟩
  have F_Never : RefE K C_TooLong C_SeekError [C_NoLength, C_NoPlace, C_NotNow, C_NoStands, C_NoAnswers, C_NoStretch, C_NoAnswer, C_Never, C_NothingLeft] C_Never "Never" := ⟨⟨x1Never, x2Never, e3Never, x4Never, x5Never, is2, is3, x8Never⟩, r1Never, r2Never, r3Never, 7, rfl, rowB_at r4Never⟩
  have E_NothingLeft : ErrC K mg "NothingLeft" C_NothingLeft := ⟨PySem.W.mg_of X G gNothingLeft, e1NothingLeft, e2NothingLeft, e3NothingLeft, e4NothingLeft⟩
  have F_NothingLeft : RefE K C_TooLong C_SeekError [C_NoLength, C_NoPlace, C_NotNow, C_NoStands, C_NoAnswers, C_NoStretch, C_NoAnswer, C_Never, C_NothingLeft] C_NothingLeft "NothingLeft" := ⟨⟨x1NothingLeft, x2NothingLeft, e3NothingLeft, x4NothingLeft, x5NothingLeft, is2, is3, x8NothingLeft⟩, r1NothingLeft, r2NothingLeft, r3NothingLeft, 8, rfl, rowB_at r4NothingLeft⟩
  have YE : ErrsC K mg (ceOf C_NoPlace C_NotNow C_NoAnswer C_Never C_NothingLeft) := fun x => match x with | .place => E_NoPlace | .now => E_NotNow | .ans => E_NoAnswer | .never => E_Never | .left => E_NothingLeft
  have hRef : ∀ x : Er, RefE K C_TooLong C_SeekError [C_NoLength, C_NoPlace, C_NotNow, C_NoStands, C_NoAnswers, C_NoStretch, C_NoAnswer, C_Never, C_NothingLeft] ((ceOf C_NoPlace C_NotNow C_NoAnswer C_Never C_NothingLeft) x) x.nm := fun x => match x with | .place => F_NoPlace | .now => F_NotNow | .ans => F_NoAnswer | .never => F_Never | .left => F_NothingLeft
  refine ⟨PySem.W.fnOf "law" "law" (defArgs s_law) (defBody s_law) (defScope s_law) .none kV20 dc20 pm20 an20 (.ref cL) ct20, [(cL, PL)], spLawT K PL, fun p hp => ?_, fun p hp => ?_, fun p hp => ?_, fun s v => .of_eq rfl, fun H a ns hl _ hT hS => ⟨a, ns, rfl, hS, hT _ List.mem_cons_self, hl, fun _ => rfl⟩, fun base _ _ TBs => ?_⟩
  · rw [List.mem_singleton.mp hp]; exact own cL PL _ _ _ _ _ _ l20 rfl rfl lC vC
  · rw [List.mem_singleton.mp hp]; exact nC
  · rw [List.mem_singleton.mp hp]; exact PySem.W.codeHd_of_K X hC
  have H_is_within : Has l.prog w K mg base 1 "is_within" ["thing", "low", "high"] (spP K R_is_within) := ok_is_within ⟨f0, _, fun_mk (st := s_is_within) l0 c0 k0, PySem.W.mg_of X G a0⟩ B
  have H_need_length : Has l.prog w K mg base 2 "need_length" ["length"] (spP K R_need_length) := ok_need_length ⟨f1, _, fun_mk (st := s_need_length) l1 c1 k1, PySem.W.mg_of X G a1⟩ B H_is_within
  have H_need_place : Has l.prog w K mg base 2 "need_place" ["length", "place"] (spP K R_need_place) := ok_need_place ⟨f2, _, fun_mk (st := s_need_place) l2 c2 k2, PySem.W.mg_of X G a2⟩ B H_is_within
  have HX_need_place := okX_need_place (P := l.prog) (w := w) (base := base) B YE ⟨f2, _, fun_mk (st := s_need_place) l2 c2 k2, PySem.W.mg_of X G a2⟩ H_is_within
  have H_is_answer : Has l.prog w K mg base 1 "is_answer" ["thing"] (spP K R_is_answer) := ok_is_answer ⟨f3, _, fun_mk (st := s_is_answer) l3 c3 k3, PySem.W.mg_of X G a3⟩ B gW qW
  have H_word_for : Has l.prog w K mg base 1 "word_for" ["far", "near"] (spP K R_word_for) := ok_word_for ⟨f4, _, fun_mk (st := s_word_for) l4 c4 k4, PySem.W.mg_of X G a4⟩ B
  have H_answer : Has l.prog w K mg base 2 "answer" ["thing", "before", "now"] (spP K R_answer) := ok_answer ⟨f5, _, fun_mk (st := s_answer) l5 c5 k5, PySem.W.mg_of X G a5⟩ B H_word_for
  have H_all_answers : Has l.prog w K mg base 3 "all_answers" ["thing", "stands"] (spN K R_all_answers) := ok_all_answers ⟨f6, _, fun_mk (st := s_all_answers) l6 c6 k6, PySem.W.mg_of X G a6⟩ B H_answer
  have H_places_for : Has l.prog w K mg base 4 "places_for" ["length", "stands", "answers"] (spP K R_places_for) := ok_places_for ⟨f7, _, fun_mk (st := s_places_for) l7 c7 k7, PySem.W.mg_of X G a7⟩ B H_all_answers
  have Y_Search : SearchC K mg C_Search := ⟨⟨xSearchpg, xSearchhd, xSearchpo, xSearchsa⟩, xSearchn_length, xSearchn_past, PySem.W.mg_of X G xSearcha⟩
  have T_Search___init__ : RawI K C_Search "Search.__init__" s_Search___init__ := ⟨fxSearch_init, _, fun_mk (st := s_Search___init__) lxSearch_init cxSearch_init kxSearch_init, ⟨xSearchmk, axSearch_init, ixSearch_init, xSearchkc⟩⟩
  have T_Search_waits : RawM K C_Search "waits" "Search.waits" s_Search_waits := ⟨fxSearch_waits, _, fun_mk (st := s_Search_waits) lxSearch_waits cxSearch_waits kxSearch_waits, ⟨axSearch_waits, ixSearch_waits, kxSearch_waits⟩⟩
  have T_Search_stand : RawM K C_Search "stand" "Search.stand" s_Search_stand := ⟨fxSearch_stand, _, fun_mk (st := s_Search_stand) lxSearch_stand cxSearch_stand kxSearch_stand, ⟨axSearch_stand, ixSearch_stand, kxSearch_stand⟩⟩
  have T_Search_answer : RawM K C_Search "answer" "Search.answer" s_Search_answer := ⟨fxSearch_answer, _, fun_mk (st := s_Search_answer) lxSearch_answer cxSearch_answer kxSearch_answer, ⟨axSearch_answer, ixSearch_answer, kxSearch_answer⟩⟩
  have T_Search_back : RawM K C_Search "back" "Search.back" s_Search_back := ⟨fxSearch_back, _, fun_mk (st := s_Search_back) lxSearch_back cxSearch_back kxSearch_back, ⟨axSearch_back, ixSearch_back, kxSearch_back⟩⟩
  have T_Search_stands : RawM K C_Search "stands" "Search.stands" s_Search_stands := ⟨fxSearch_stands, _, fun_mk (st := s_Search_stands) lxSearch_stands cxSearch_stands kxSearch_stands, ⟨axSearch_stands, ixSearch_stands, kxSearch_stands⟩⟩
  have T_Search_answers : RawM K C_Search "answers" "Search.answers" s_Search_answers := ⟨fxSearch_answers, _, fun_mk (st := s_Search_answers) lxSearch_answers cxSearch_answers kxSearch_answers, ⟨axSearch_answers, ixSearch_answers, kxSearch_answers⟩⟩
  have T_Search_can_lie : RawM K C_Search "can_lie" "Search.can_lie" s_Search_can_lie := ⟨fxSearch_can_lie, _, fun_mk (st := s_Search_can_lie) lxSearch_can_lie cxSearch_can_lie kxSearch_can_lie, ⟨axSearch_can_lie, ixSearch_can_lie, kxSearch_can_lie⟩⟩
  have T_Search___len__ : RawM K C_Search "__len__" "Search.__len__" s_Search___len__ := ⟨fxSearch_len, _, fun_mk (st := s_Search___len__) lxSearch_len cxSearch_len kxSearch_len, ⟨axSearch_len, ixSearch_len, kxSearch_len⟩⟩
  have T_Search___eq__ : RawM K C_Search "__eq__" "Search.__eq__" s_Search___eq__ := ⟨fxSearch_eq, _, fun_mk (st := s_Search___eq__) lxSearch_eq cxSearch_eq kxSearch_eq, ⟨axSearch_eq, ixSearch_eq, kxSearch_eq⟩⟩
  have H_Search___init__ := ok_Search___init__ (P := l.prog) (w := w) (base := base) Y_Search T_Search___init__ B H_need_length
  have H_Search_waits := ok_Search_waits (P := l.prog) (w := w) (base := base) Y_Search T_Search_waits B
  have H_Search_stand := ok_Search_stand (P := l.prog) (w := w) (base := base) Y_Search T_Search_stand B H_need_place H_Search_waits
  have H_Search_answer := ok_Search_answer (P := l.prog) (w := w) (base := base) Y_Search T_Search_answer B H_is_answer H_places_for H_Search_waits
  have H_Search_back := ok_Search_back (P := l.prog) (w := w) (base := base) Y_Search T_Search_back B
  have H_Search_stands := ok_Search_stands (P := l.prog) (w := w) (base := base) Y_Search T_Search_stands B
  have H_Search_answers := ok_Search_answers (P := l.prog) (w := w) (base := base) Y_Search T_Search_answers B
  have H_Search_can_lie := ok_Search_can_lie (P := l.prog) (w := w) (base := base) Y_Search T_Search_can_lie B H_places_for
  have H_Search___len__ := ok_Search___len__ (P := l.prog) (w := w) (base := base) Y_Search T_Search___len__ B
  have Is : IsC K C_Search := ⟨Y_Search.cl, is1, is2, is3, is4, is5, is6, is7⟩
  have H_Search___eq__ := ok_Search___eq__ (P := l.prog) (w := w) (base := base) Y_Search T_Search___eq__ B Is
  have HX_Search_stand := okX_Search_stand (P := l.prog) (w := w) (base := base) T_Search_stand B YE Y_Search HX_need_place H_need_place H_Search_waits
  have HX_Search_answer := okX_Search_answer (P := l.prog) (w := w) (base := base) T_Search_answer B YE Y_Search H_is_answer H_Search_waits H_places_for
  have HX_Search_back := okX_Search_back (P := l.prog) (w := w) (base := base) T_Search_back B YE Y_Search
  have H_law_cell_at : Has l.prog w K mg base 1 "_law_cell_at" ["script", "k"] (spP K R_law_cell_at) := ok_law_cell_at ⟨f8, _, fun_mk (st := s_law_cell_at) l8 c8 k8, PySem.W.mg_of X G a8⟩ B
  have H_law_draws : Has l.prog w K mg base 1 "_law_draws" ["cell", "many", "size"] (spN K R_law_draws) := ok_law_draws ⟨f9, _, fun_mk (st := s_law_draws) l9 c9 k9, PySem.W.mg_of X G a9⟩ B
  have H_law_from : Has l.prog w K mg base 1 "_law_from" ["thing", "least", "top"] (spP K R_law_from) := ok_law_from ⟨f10, _, fun_mk (st := s_law_from) l10 c10 k10, PySem.W.mg_of X G a10⟩ B
  have H_law_bag : Has l.prog w K mg base 2 "_law_bag" ["script", "k"] (spN K R_law_bag) := ok_law_bag ⟨f11, _, fun_mk (st := s_law_bag) l11 c11 k11, PySem.W.mg_of X G a11⟩ B H_law_draws H_law_cell_at
  have H_law_bags : Has l.prog w K mg base 3 "_law_bags" ["script", "limit"] (spB K R_law_bags) := ok_law_bags ⟨f12, _, fun_mk (st := s_law_bags) l12 c12 k12, PySem.W.mg_of X G a12⟩ B H_law_bag
  have H_law_take : Has l.prog w K mg base 1 "_law_take" ["bag", "many"] (spM K R_law_take) := ok_law_take ⟨f13, _, fun_mk (st := s_law_take) l13 c13 k13, PySem.W.mg_of X G a13⟩ B
  have H_law_word : Has l.prog w K mg base 1 "_law_word" ["far", "near"] (spP K R_law_word) := ok_law_word ⟨f14, _, fun_mk (st := s_law_word) l14 c14 k14, PySem.W.mg_of X G a14⟩ B
  have H_law_words : Has l.prog w K mg base 2 "_law_words" ["thing", "stands"] (spN K R_law_words) := ok_law_words ⟨f15, _, fun_mk (st := s_law_words) l15 c15 k15, PySem.W.mg_of X G a15⟩ B H_law_word
  have H_law_open : Has l.prog w K mg base 3 "_law_open" ["length", "stands", "words"] (spP K R_law_open) := ok_law_open ⟨f17, _, fun_mk (st := s_law_open) l17 c17 k17, PySem.W.mg_of X G a17⟩ B H_law_words
  have H_law_after : Has l.prog w K mg base 4 "_law_after" ["length", "state", "deed"] (spP K R_law_after) := ok_law_after ⟨f18, _, fun_mk (st := s_law_after) l18 c18 k18, PySem.W.mg_of X G a18⟩ B H_law_from H_law_open
  have H_law_do : Has l.prog w K mg base 13 "_law_do" ["search", "deed"] (spMs K (R_law_do C_Search)) := ok_law_do ⟨f19, _, fun_mk (st := s_law_do) l19 c19 k19, PySem.W.mg_of X G a19⟩ B Y_Search H_Search_stand H_Search_back H_Search_answer
  have HX_law_do := okX_law_do (P := l.prog) (w := w) (base := base) B YE ⟨f19, _, fun_mk (st := s_law_do) l19 c19 k19, PySem.W.mg_of X G a19⟩ Y_Search HX_Search_stand HX_Search_back HX_Search_answer
  have H_law_refused := ok_law_refused (P := l.prog) (w := w) (base := base) ⟨f16, _, fun_mk (st := s_law_refused) l16 c16 k16, PySem.W.mg_of X G a16⟩ B (PySem.W.mg_of X G gTooLong) (PySem.W.mg_of X G gSeekError) (PySem.W.mg_of X G gNoLength) (PySem.W.mg_of X G gNoPlace) (PySem.W.mg_of X G gNotNow) (PySem.W.mg_of X G gNoStands) (PySem.W.mg_of X G gNoAnswers) (PySem.W.mg_of X G gNoStretch) (PySem.W.mg_of X G gNoAnswer) (PySem.W.mg_of X G gNever) (PySem.W.mg_of X G gNothingLeft) (Lc := ok_lambda B Y_Search (H_law_do.mono (by decide)) (HX_law_do.mono (by decide)))
  exact ok_law l20 c20 B (TBs (cL, PL) List.mem_cons_self) Y_Search H_law_bags H_law_take H_Search___init__ H_law_words H_law_after H_law_do H_Search___len__ H_Search_answers H_Search_stands H_Search_waits H_Search_can_lie H_law_open H_Search___eq__ H_Search_back Is hRef H_law_refused
end Wm
open PySem PySem.W PyProof.Rows
set_option maxRecDepth 100000 in
set_option maxHeartbeats 0 in
theorem PySem.Challenge.cw_warmcold_k13_whole_a_search_deed_by_deed_holds : PySem.Challenge.rw_warmcold_k13_whole_a_search_deed_by_deed.Holds := by
  w_on; o_law; k_head; (case hw => w_witness2)
  k_fill
  refine LamX.walk_ofOwn (l := PySem.Challenge.rw_warmcold_k13_whole_a_search_deed_by_deed) (n := 63) (k := 22) (x := "script") (CX := fun _ => L2.CX0) rfl (by decide) rfl ⟨rfl, by decide, by decide⟩ ?R (fun w h Y => PySem.W.km_in_of Y) ?F (fun _ _ _ _ _ h => h)
  case R => decide +kernel
  case F =>
    intro w mg fa h _ KX G hmg own
    refine' Wm.all_mk KX G hmg own ?a0 ?l0 ?c0 ?k0 ?a1 ?l1 ?c1 ?k1 ?a2 ?l2 ?c2 ?k2 ?a3 ?l3 ?c3 ?k3 ?a4 ?l4 ?c4 ?k4 ?a5 ?l5 ?c5 ?k5 ?a6 ?l6 ?c6 ?k6 ?a7 ?l7 ?c7 ?k7 ?a8 ?l8 ?c8 ?k8 ?a9 ?l9 ?c9 ?k9 ?a10 ?l10 ?c10 ?k10 ?a11 ?l11 ?c11 ?k11 ?a12 ?l12 ?c12 ?k12 ?a13 ?l13 ?c13 ?k13 ?a14 ?l14 ?c14 ?k14 ?a15 ?l15 ?c15 ?k15 ?a16 ?l16 ?c16 ?k16 ?a17 ?l17 ?c17 ?k17 ?a18 ?l18 ?c18 ?k18 ?a19 ?l19 ?c19 ?k19 ?a20 ?l20 ?c20 ?k20 ?lC ?vC ?hC ?nC ?xSearcha ?xSearchpg ?xSearchhd ?xSearchpo ?xSearchsa ?xSearchmk ?xSearchkc ?xSearchn_length ?xSearchn_past ?axSearch_init ?ixSearch_init ?lxSearch_init ?cxSearch_init ?kxSearch_init ?axSearch_waits ?ixSearch_waits ?lxSearch_waits ?cxSearch_waits ?kxSearch_waits ?axSearch_stand ?ixSearch_stand ?lxSearch_stand ?cxSearch_stand ?kxSearch_stand ?axSearch_answer ?ixSearch_answer ?lxSearch_answer ?cxSearch_answer ?kxSearch_answer ?axSearch_back ?ixSearch_back ?lxSearch_back ?cxSearch_back ?kxSearch_back ?axSearch_stands ?ixSearch_stands ?lxSearch_stands ?cxSearch_stands ?kxSearch_stands ?axSearch_answers ?ixSearch_answers ?lxSearch_answers ?cxSearch_answers ?kxSearch_answers ?axSearch_can_lie ?ixSearch_can_lie ?lxSearch_can_lie ?cxSearch_can_lie ?kxSearch_can_lie ?axSearch_len ?ixSearch_len ?lxSearch_len ?cxSearch_len ?kxSearch_len ?axSearch_eq ?ixSearch_eq ?lxSearch_eq ?cxSearch_eq ?kxSearch_eq ?is1 ?is2 ?is3 ?is4 ?is5 ?is6 ?is7 ?gNoLength ?gNoPlace ?gNotNow ?gNoStands ?gNoAnswers ?gNoStretch ?gNoAnswer ?gNever ?gNothingLeft ?gTooLong ?gSeekError ?e1NoPlace ?e2NoPlace ?e3NoPlace ?e4NoPlace ?x1NoPlace ?x2NoPlace ?x4NoPlace ?x5NoPlace ?x8NoPlace ?r1NoPlace ?r2NoPlace ?r3NoPlace ?r4NoPlace ?e1NotNow ?e2NotNow ?e3NotNow ?e4NotNow ?x1NotNow ?x2NotNow ?x4NotNow ?x5NotNow ?x8NotNow ?r1NotNow ?r2NotNow ?r3NotNow ?r4NotNow ?e1NoAnswer ?e2NoAnswer ?e3NoAnswer ?e4NoAnswer ?x1NoAnswer ?x2NoAnswer ?x4NoAnswer ?x5NoAnswer ?x8NoAnswer ?r1NoAnswer ?r2NoAnswer ?r3NoAnswer ?r4NoAnswer ?e1Never ?e2Never ?e3Never ?e4Never ?x1Never ?x2Never ?x4Never ?x5Never ?x8Never ?r1Never ?r2Never ?r3Never ?r4Never ?e1NothingLeft ?e2NothingLeft ?e3NothingLeft ?e4NothingLeft ?x1NothingLeft ?x2NothingLeft ?x4NothingLeft ?x5NothingLeft ?x8NothingLeft ?r1NothingLeft ?r2NothingLeft ?r3NothingLeft ?r4NothingLeft ?z_abs ?z_all ?z_enumerate ?z_int ?z_isinstance ?z_len ?z_list ?z_max ?z_min ?z_range ?z_set ?z_sorted ?z_str ?z_tuple ?z_zip ?z_bool ?z_repr ?z_ValueError ?aWd ?lWd ?qWd
    (case a0 => k_is); (case l0 => k_is); (case c0 => k_is); (case k0 => k_is); (case a1 => k_is); (case l1 => k_is)
    (case c1 => k_is); (case k1 => k_is); (case a2 => k_is); (case l2 => k_is); (case c2 => k_is); (case k2 => k_is)
    (case a3 => k_is); (case l3 => k_is); (case c3 => k_is); (case k3 => k_is); (case a4 => k_is); (case l4 => k_is)
    (case c4 => k_is); (case k4 => k_is); (case a5 => k_is); (case l5 => k_is); (case c5 => k_is); (case k5 => k_is)
    (case a6 => k_is); (case l6 => k_is); (case c6 => k_is); (case k6 => k_is); (case a7 => k_is); (case l7 => k_is)
    (case c7 => k_is); (case k7 => k_is); (case a8 => k_is); (case l8 => k_is); (case c8 => k_is); (case k8 => k_is)
    (case a9 => k_is); (case l9 => k_is); (case c9 => k_is); (case k9 => k_is); (case a10 => k_is); (case l10 => k_is)
    (case c10 => k_is); (case k10 => k_is); (case a11 => k_is); (case l11 => k_is); (case c11 => k_is); (case k11 => k_is)
    (case a12 => k_is); (case l12 => k_is); (case c12 => k_is); (case k12 => k_is); (case a13 => k_is); (case l13 => k_is)
    (case c13 => k_is); (case k13 => k_is); (case a14 => k_is); (case l14 => k_is); (case c14 => k_is); (case k14 => k_is)
    (case a15 => k_is); (case l15 => k_is); (case c15 => k_is); (case k15 => k_is); (case a16 => k_is); (case l16 => k_is)
    (case c16 => k_is); (case k16 => k_is); (case a17 => k_is); (case l17 => k_is); (case c17 => k_is); (case k17 => k_is)
    (case a18 => k_is); (case l18 => k_is); (case c18 => k_is); (case k18 => k_is); (case a19 => k_is); (case l19 => k_is)
    (case c19 => k_is); (case k19 => k_is); (case a20 => k_is); (case l20 => k_is); (case c20 => k_is); (case k20 => k_is)
    (case lC => k_is); (case vC => first | rfl | k_is); (case hC => kernel_rfl!); (case nC => first | k_is | kernel_rfl!); (case xSearcha => k_is); (case xSearchpg => k_is)
    (case xSearchhd => k_is); (case xSearchpo => k_is); (case xSearchsa => k_is); (case xSearchmk => k_is); (case xSearchkc => k_is); (case xSearchn_length => k_is)
    (case xSearchn_past => k_is); (case axSearch_init => k_is); (case ixSearch_init => k_is); (case lxSearch_init => k_is); (case cxSearch_init => k_is); (case kxSearch_init => k_is)
    (case axSearch_waits => k_is); (case ixSearch_waits => k_is); (case lxSearch_waits => k_is); (case cxSearch_waits => k_is); (case kxSearch_waits => k_is); (case axSearch_stand => k_is)
    (case ixSearch_stand => k_is); (case lxSearch_stand => k_is); (case cxSearch_stand => k_is); (case kxSearch_stand => k_is); (case axSearch_answer => k_is); (case ixSearch_answer => k_is)
    (case lxSearch_answer => k_is); (case cxSearch_answer => k_is); (case kxSearch_answer => k_is); (case axSearch_back => k_is); (case ixSearch_back => k_is); (case lxSearch_back => k_is)
    (case cxSearch_back => k_is); (case kxSearch_back => k_is); (case axSearch_stands => k_is); (case ixSearch_stands => k_is); (case lxSearch_stands => k_is); (case cxSearch_stands => k_is)
    (case kxSearch_stands => k_is); (case axSearch_answers => k_is); (case ixSearch_answers => k_is); (case lxSearch_answers => k_is); (case cxSearch_answers => k_is); (case kxSearch_answers => k_is)
    (case axSearch_can_lie => k_is); (case ixSearch_can_lie => k_is); (case lxSearch_can_lie => k_is); (case cxSearch_can_lie => k_is); (case kxSearch_can_lie => k_is); (case axSearch_len => k_is)
    (case ixSearch_len => k_is); (case lxSearch_len => k_is); (case cxSearch_len => k_is); (case kxSearch_len => k_is); (case axSearch_eq => k_is); (case ixSearch_eq => k_is)
    (case lxSearch_eq => k_is); (case cxSearch_eq => k_is); (case kxSearch_eq => k_is); (case is1 => k_is); (case is2 => k_is); (case is3 => k_is)
    (case is4 => k_is); (case is5 => kit_is); (case is6 => kit_is); (case is7 => k_is); (case gNoLength => k_is); (case gNoPlace => k_is)
    (case gNotNow => k_is); (case gNoStands => k_is); (case gNoAnswers => k_is); (case gNoStretch => k_is); (case gNoAnswer => k_is); (case gNever => k_is)
    (case gNothingLeft => k_is); (case gTooLong => k_is); (case gSeekError => k_is); (case e1NoPlace => k_exc); (case e2NoPlace => k_is); (case e3NoPlace => k_is)
    (case e4NoPlace => k_is); (case x1NoPlace => k_is); (case x2NoPlace => k_is); (case x4NoPlace => k_is); (case x5NoPlace => k_is); (case x8NoPlace => k_is)
    (case r1NoPlace => kts_exm); (case r2NoPlace => kts_exm); (case r3NoPlace => kit_is); (case r4NoPlace => kernel_rfl!); (case e1NotNow => k_exc); (case e2NotNow => k_is)
    (case e3NotNow => k_is); (case e4NotNow => k_is); (case x1NotNow => k_is); (case x2NotNow => k_is); (case x4NotNow => k_is); (case x5NotNow => k_is)
    (case x8NotNow => k_is); (case r1NotNow => kts_exm); (case r2NotNow => kts_exm); (case r3NotNow => kit_is); (case r4NotNow => kernel_rfl!); (case e1NoAnswer => k_exc)
    (case e2NoAnswer => k_is); (case e3NoAnswer => k_is); (case e4NoAnswer => k_is); (case x1NoAnswer => k_is); (case x2NoAnswer => k_is); (case x4NoAnswer => k_is)
    (case x5NoAnswer => k_is); (case x8NoAnswer => k_is); (case r1NoAnswer => kts_exm); (case r2NoAnswer => kts_exm); (case r3NoAnswer => kit_is); (case r4NoAnswer => kernel_rfl!)
    (case e1Never => k_exc); (case e2Never => k_is); (case e3Never => k_is); (case e4Never => k_is); (case x1Never => k_is); (case x2Never => k_is)
    (case x4Never => k_is); (case x5Never => k_is); (case x8Never => k_is); (case r1Never => kts_exm); (case r2Never => kts_exm); (case r3Never => kit_is)
    (case r4Never => kernel_rfl!); (case e1NothingLeft => k_exc); (case e2NothingLeft => k_is); (case e3NothingLeft => k_is); (case e4NothingLeft => k_is); (case x1NothingLeft => k_is)
    (case x2NothingLeft => k_is); (case x4NothingLeft => k_is); (case x5NothingLeft => k_is); (case x8NothingLeft => k_is); (case r1NothingLeft => kts_exm); (case r2NothingLeft => kts_exm)
    (case r3NothingLeft => kit_is); (case r4NothingLeft => kernel_rfl!); (case z_abs => k_is); (case z_all => k_is); (case z_enumerate => k_is); (case z_int => k_is)
    (case z_isinstance => k_is); (case z_len => k_is); (case z_list => k_is); (case z_max => k_is); (case z_min => k_is); (case z_range => k_is)
    (case z_set => k_is); (case z_sorted => k_is); (case z_str => k_is); (case z_tuple => k_is); (case z_zip => k_is); (case z_bool => k_is)
    (case z_repr => k_is); (case z_ValueError => k_is); (case aWd => k_is); (case lWd => k_is); (case qWd => first | rfl | decide +kernel)
