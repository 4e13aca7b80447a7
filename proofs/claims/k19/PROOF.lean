import PyProof.Rows.All
import Wide.All
import OpenK.AllK
import Wide.FinOn
import HandS.ForMost
import HandS.Dict
import HandS.Keys
import HandS.ForDict
import KE.KDictKeyed
import KE.KDictWalk
import HandS.Iter
import HandS.Walk
import HandS.Exc
import HandS.TryOnly
import HandS.ExcOwn
import HandS.WordsExc
import HandS.IsInst
import HandS.ExcIs
import HandS.CallSlots
import HandS.Defaults
import HandS.StrMore
import HandS.FStr
import HandS.Replace
import HandS.HeadEnd
import HandS.Head0
import HandS.Head1
import HandS.Head2
import HandS.HeadHook1
import HandS.HeadHook2
import HandS.HeadHook3
import HandS.HeadHook4
import HandS.Lambda
import HandS.EndTab
import HandS.HeadWalk
import HandS.Zip
import HandS.Flow
import HandS.SetFor
import HandS.Conv
import HandS.ReplaceLit
import HandS.List
import HandS.New
import HandS.TupSets
import HandS.SortKw
import KE.DataMinMax
import HandS.Codes
import HandS.ListEq
import HandS.Style
import HandS.Deep
import KE.DataFind
import KE.KRevSl
import KE.KDictDisplayH
import KE.KSortTupG
import KE.KSortKey
import KE.SortData
import PySem.Challenge.RW_roadbook_k19_least_by_all_ways
set_option Elab.async false
set_option linter.all false
set_option maxRecDepth 100000
set_option maxHeartbeats 4000000
/-! # MpNk -/
/-! dicts whose keys are tuples of whole numbers, texts and None: an object of my own -/
namespace Mp
open PySem PySem.Spec PyProof.Rows L2
abbrev NK := List (Option Key)
def nkA : Option Key → NestedKey
  | none => .none
  | some (.inl i) => .num i
  | some (.inr x) => .text x
def nk (k : NK) : NestedKey := .tup (k.map nkA)
def nV : Option Key → V
  | none => .non
  | some k => kV k
theorem nkA_inj : ∀ {a b : Option Key}, nkA a = nkA b → a = b
  | none, none, _ => rfl
  | some (.inl i), some (.inl j), h => by cases h; rfl
  | some (.inr x), some (.inr y), h => by cases h; rfl
  | none, some (.inl _), h => by cases h
  | none, some (.inr _), h => by cases h
  | some (.inl _), none, h => by cases h
  | some (.inr _), none, h => by cases h
  | some (.inl _), some (.inr _), h => by cases h
  | some (.inr _), some (.inl _), h => by cases h
theorem nks_inj : ∀ {a b : NK}, a.map nkA = b.map nkA → a = b
  | [], [], _ => rfl
  | [], _ :: _, h => by cases h
  | _ :: _, [], h => by cases h
  | x :: a, y :: b, h => by
    rw [List.map_cons, List.map_cons] at h
    injection h with h1 h2
    rw [nkA_inj h1, nks_inj h2]
theorem nk_inj {a b : NK} (h : nk a = nk b) : a = b := by
  unfold nk at h
  injection h with h
  exact nks_inj h
theorem nk_dec (a b : NK) : decide (nk a = nk b) = decide (a = b) := by
  by_cases h : a = b
  · rw [h]; simp
  · rw [decide_eq_false h, decide_eq_false fun e => h (nk_inj e)]
theorem nkA_dep : ∀ a : Option Key, (nkA a).depth = 0
  | none => rfl
  | some (.inl _) => rfl
  | some (.inr _) => rfl
theorem nks_dep : ∀ k : NK, NestedKey.depthAll (k.map nkA) = 0
  | [] => rfl
  | a :: k => by rw [List.map_cons, NestedKey.depthAll, nkA_dep, nks_dep k]; rfl
theorem nk_dep (k : NK) : (nk k).depth ≤ 8 := by
  unfold nk
  rw [NestedKey.depth, nks_dep]
  omega
theorem nk_at {h : Heap} : ∀ {a : Option Key} {u : Value}, RelV (nV a) u → NestedIs h (nkA a) u
  | none, u, r => by
    cases (show u = Value.none from r)
    exact .none
  | some (.inl i), u, r => by
    obtain ⟨t, rfl⟩ := (show ∃ t, u = Value.int i t from r)
    exact .int i t
  | some (.inr x), u, r => by
    obtain ⟨t, rfl⟩ := (show ∃ t, u = Value.str x t from r)
    exact .text x t
theorem nk_ats {h : Heap} : ∀ {k : NK} {us : List Value}, Vals (k.map nV) us → NestedAll h (k.map nkA) us
  | [], us, r => by cases r; exact .nil
  | a :: k, us, r => by
    rw [List.map_cons] at r
    cases r with
    | cons r1 r2 => exact .cons (nk_at r1) (nk_ats r2)
theorem nk_of {P : Program} {w : World} {H : Hp} {h : Heap} {b : Addr} {k : NK} (ok : HOk P w H h) (e : H b = some (.tup (k.map nV))) : (nestedKind P w).is h (nk k) b := by
  obtain ⟨_, its, r, o, h1, h2, n, h3⟩ := (show ObjOk P w H h b (.tup (k.map nV)) from ok b _ e)
  refine ⟨.tup h1 h2 h3 ?_, nk_dep k⟩
  have := nk_ats (h := h) r
  simpa using this
/-- an entry -/
abbrev Ent := NK × Addr × V
def entX (hs : NestedKey → Int) (x : NestedKey × Addr × Value) : DictEntry := ⟨hs x.1, .ref x.2.1, x.2.2⟩
abbrev EntR : Ent → NestedKey × Addr × Value → Prop := fun p q => q.1 = nk p.1 ∧ q.2.1 = p.2.1 ∧ RelV p.2.2 q.2.2
def DxOk (hs : NestedKey → Int) (a : Addr) (kvs : List Ent) (h : Heap) : Prop := kvs.length ≤ sizeLine ∧ (a == sysModules) = false ∧ ∃ xs : List (NestedKey × Addr × Value), Paired EntR kvs xs ∧
  ∃ o es ep, h.get? a = some o ∧ o.ExactDict ∧ o.data = .dict es ep ∧ es.toList = xs.map (entX hs) ∧ (xs.map (·.1)).Nodup
def DX (hs : NestedKey → Int) (a : Addr) (kvs : List Ent) : HO := .ext (DxOk hs a kvs)
/-- the keys' own tuples stand there -/
def KeysAt (H : Hp) (kvs : List Ent) : Prop := ∀ p ∈ kvs, H p.2.1 = some (.tup (p.1.map nV))
def valX : List Ent → NK → Option V
  | [], _ => none
  | p :: r, k => if p.1 = k then some p.2.2 else valX r k
def putX (kvs : List Ent) (k : NK) (b : Addr) (v : V) : List Ent := if (kvs.any fun p => decide (p.1 = k)) = true then kvs.map fun p => if p.1 = k then (p.1, p.2.1, v) else p else kvs ++ [(k, b, v)]
theorem dx_new {hs : NestedKey → Int} {P : Program} {w : World} {H : Hp} {h : Heap} {a : Addr} {kvs : List Ent} (x : DxOk hs a kvs h) : ObjOk P w H h a (DX hs a kvs) := by
  refine ⟨x, ?_, fun h1 h2 x1 k => ?_⟩
  · obtain ⟨_, _, _, _, o, _, _, e, _⟩ := x
    exact ⟨o, e⟩
  · obtain ⟨z, y, xs, r, o, es, ep, e, c⟩ := x1
    exact ⟨z, y, xs, r, o, es, ep, k _ e, c⟩
theorem paired_all {α β : Type} {F : α → β → Prop} {l : List α} {m : List β} (q : Paired F l m) : ∀ y ∈ m, ∃ x ∈ l, F x y := by
  induction q with
  | nil => intro y hy; cases hy
  | @cons a b as bs h t ih =>
    intro y hy
    rcases List.mem_cons.mp hy with rfl | hy
    · exact ⟨a, List.mem_cons_self, h⟩
    · obtain ⟨x, hx, e⟩ := ih y hy
      exact ⟨x, List.mem_cons_of_mem _ hx, e⟩
section
variable {P : Program} {w : World} {H : Hp} {h : Heap} {a : Addr} {kvs : List Ent}
theorem dx_of (ok : HOk P w H h) (e : Rd H a (DX (NestedKey.hash w) a kvs)) (ks : KeysAt H kvs) : kvs.length ≤ sizeLine ∧ (a == sysModules) = false ∧ ∃ xs, Paired EntR kvs xs ∧ h.DictOfH (nestedKind P w) a xs := by
  obtain ⟨⟨z, y, xs, r, o, es, ep, h1, h2, h3, h4, h5⟩, _⟩ := (show ObjOk P w H h a (DX (NestedKey.hash w) a kvs) from rd_of ok e)
  refine ⟨z, y, xs, r, o, es, ep, h1, h2, h3, h4, fun x hx => ?_, h5⟩
  obtain ⟨p, hp, q1, q2, _⟩ := paired_all r x hx
  rw [q1, q2]
  exact nk_of ok (ks p hp)
theorem val_rel : ∀ {kvs : List Ent} {xs : List (NestedKey × Addr × Value)} (k : NK), Paired EntR kvs xs → RelO (valX kvs k) ((atKey xs (nk k)).map (·.2))
  | _, _, k, .nil => True.intro
  | p :: kvs, q :: xs, k, .cons r t => by
    have ih := val_rel k t
    unfold atKey at *
    rw [List.find?_cons]
    rw [r.1, nk_dec]
    show RelO (if p.1 = k then some p.2.2 else valX kvs k) _
    by_cases c : p.1 = k
    · rw [if_pos c, decide_eq_true c]
      exact r.2.2
    · rw [if_neg c, decide_eq_false c]
      exact ih
theorem any_rel : ∀ {kvs : List Ent} {xs : List (NestedKey × Addr × Value)} (k : NK), Paired EntR kvs xs → (kvs.any fun p => decide (p.1 = k)) = (atKey xs (nk k)).isSome
  | _, _, k, .nil => rfl
  | p :: kvs, q :: xs, k, .cons r t => by
    have ih := any_rel k t
    unfold atKey at *
    rw [List.find?_cons, List.any_cons, r.1, nk_dec]
    by_cases c : p.1 = k
    · rw [decide_eq_true c]; rfl
    · rw [decide_eq_false c, Bool.false_or]
      exact ih
theorem map_rel {k : NK} {v : V} {u : Value} (rv : RelV v u) : ∀ {kvs : List Ent} {xs : List (NestedKey × Addr × Value)}, Paired EntR kvs xs → Paired EntR (kvs.map fun p => if p.1 = k then (p.1, p.2.1, v) else p) (xs.map (putAt (nk k) u))
  | _, _, .nil => .nil
  | p :: kvs, q :: xs, .cons r t => by
    refine .cons ?_ (map_rel rv t)
    unfold putAt
    rw [r.1]
    dsimp only
    by_cases c : p.1 = k
    · rw [if_pos c, if_pos (by rw [c])]
      exact ⟨rfl, r.2.1, rv⟩
    · rw [if_neg c, if_neg fun e => c (nk_inj e)]
      exact r
theorem paired_app {α β : Type} {F : α → β → Prop} : ∀ {l l' : List α} {m m' : List β}, Paired F l m → Paired F l' m' → Paired F (l ++ l') (m ++ m')
  | _, _, _, _, .nil, s => s
  | _, _, _, _, .cons r t, s => .cons r (paired_app t s)
theorem put_rel {kvs : List Ent} {xs : List (NestedKey × Addr × Value)} {k : NK} {b : Addr} {v : V} {u : Value} (rv : RelV v u) (r : Paired EntR kvs xs) : Paired EntR (putX kvs k b v) (storedH xs (nk k) b u) := by
  unfold putX storedH
  rw [any_rel k r]
  split
  · exact map_rel rv r
  · exact paired_app r (.cons ⟨rfl, rfl, rv⟩ .nil)
theorem putX_len {k : NK} {b : Addr} {v : V} : (putX kvs k b v).length ≤ kvs.length + 1 := by
  unfold putX
  split
  · simp
  · simp
theorem putX_keys {H' : Hp} {k : NK} {b : Addr} {v : V} (ks : KeysAt H' kvs) (hb : H' b = some (.tup (k.map nV))) : KeysAt H' (putX kvs k b v) := fun p hp => by
  unfold putX at hp
  split at hp
  · obtain ⟨q, hq, rfl⟩ := List.mem_map.mp hp
    split
    · exact ks q hq
    · exact ks q hq
  · rcases List.mem_append.mp hp with hp | hp
    · exact ks p hp
    · rw [List.mem_singleton] at hp
      subst hp
      exact hb
end
/-- what the dict at a holds at the key y -/
def XGet (hs : NestedKey → Int) (H : Hp) (a : Addr) (y : V) (r : Option V) : Prop := ∃ kvs k b, Rd H a (DX hs a kvs) ∧ KeysAt H kvs ∧ y = .ref b ∧ H b = some (.tup (k.map nV)) ∧ r = valX kvs k
/-- behind a[y] = v -/
def XPut (hs : NestedKey → Int) (H : Hp) (a : Addr) (y v : V) (H' : Hp) : Prop := ∃ kvs k b, H a = some (DX hs a kvs) ∧ KeysAt H kvs ∧ y = .ref b ∧ H b = some (.tup (k.map nV)) ∧ kvs.length < sizeLine ∧ H' = upd H a (DX hs a (putX kvs k b v))
section
variable {X : Cx} {pins : List (Addr × Obj)} {σ : L2.St} {H : Hp} {s : Shared} {a : Addr} {y v : V} {u r : Value} {o : Option V} {A : Around} {E : Value → Shared → Prop}
theorem x_typeIs (I : Inv X pins σ H s) (g : XGet (NestedKey.hash X.w) H a y o) : s.TypeIs (.ref a) "dict" := by
  obtain ⟨kvs, k, b, e, ks, _⟩ := g
  obtain ⟨_, _, xs, _, dd⟩ := dx_of I.hok e ks
  exact dd.typeIs
theorem x_getItem {Q : Value → Shared → Prop} (hu : A.units + 16 < cLine) (I : Inv X pins σ H s) (g : XGet (NestedKey.hash X.w) H a y (some v)) (ry : RelV y u) (h : ∀ w' s', Inv X pins σ H s' → RelV v w' → Q w' s') :
    wpAny (model X.prog X.w) A (getItem (.ref a) u) Q E s := by
  obtain ⟨kvs, k, b, e, ks, ey, eb, l⟩ := g
  subst ey
  cases (show u = Value.ref b from ry)
  obtain ⟨z, hd, xs, rel, dd⟩ := dx_of I.hok e ks
  obtain ⟨w', hw, rw'⟩ := RelO.some_of (v := v) (o := (atKey xs (nk k)).map (·.2)) (by rw [l]; exact val_rel k rel)
  obtain ⟨p, hp, hp2⟩ := Option.map_eq_some_iff.mp hw
  refine wpAny_getItem_heap (show (nestedKind X.prog X.w).room A.in1 from by show A.in1.units + 8 < cLine; rw [Around.in1_units]; omega) (nk_of I.hok eb) dd hp ?_
  rw [hp2]
  exact h w' _ (I.tok _) rw'
theorem x_in {Q : Value → Shared → Prop} (hu : A.units + 16 < cLine) (I : Inv X pins σ H s) (g : XGet (NestedKey.hash X.w) H a y o) (ry : RelV y u) (h : ∀ s', Inv X pins σ H s' → Q (.bool o.isSome) s') :
    wpAny (model X.prog X.w) A (compareOp .In u (.ref a)) Q E s := by
  obtain ⟨kvs, k, b, e, ks, ey, eb, l⟩ := g
  subst ey
  cases (show u = Value.ref b from ry)
  obtain ⟨z, hd, xs, rel, dd⟩ := dx_of I.hok e ks
  refine wpAny_in_heap (show (nestedKind X.prog X.w).room A.in1 from by show A.in1.units + 8 < cLine; rw [Around.in1_units]; omega) (nk_of I.hok eb) hd dd ?_
  have q := (val_rel k rel).isSome_eq
  rw [Option.isSome_map] at q
  rw [← q, ← l]
  exact h _ (I.tok _)
theorem x_notIn {Q : Value → Shared → Prop} (hu : A.units + 16 < cLine) (I : Inv X pins σ H s) (g : XGet (NestedKey.hash X.w) H a y o) (ry : RelV y u) (h : ∀ s', Inv X pins σ H s' → Q (.bool (!o.isSome)) s') :
    wpAny (model X.prog X.w) A (compareOp .NotIn u (.ref a)) Q E s := by
  obtain ⟨kvs, k, b, e, ks, ey, eb, l⟩ := g
  subst ey
  cases (show u = Value.ref b from ry)
  obtain ⟨z, hd, xs, rel, dd⟩ := dx_of I.hok e ks
  refine wpAny_notIn_heap (show (nestedKind X.prog X.w).room A.in1 from by show A.in1.units + 8 < cLine; rw [Around.in1_units]; omega) (nk_of I.hok eb) hd dd ?_
  have q := (val_rel k rel).isSome_eq
  rw [Option.isSome_map] at q
  rw [← q, ← l]
  exact h _ (I.tok _)
theorem x_setItem {H' : Hp} {Q : Unit → Shared → Prop} (hu : A.units + 16 < cLine) (I : Inv X pins σ H s) (g : XPut (NestedKey.hash X.w) H a y v H') (ry : RelV y u) (rv : RelV v r) (h : ∀ s', Inv X pins σ H' s' → Q () s') :
    wpAny (model X.prog X.w) A (setItem (.ref a) u r) Q E s := by
  obtain ⟨kvs, k, b, e, ks, ey, eb, l, eH⟩ := g
  subst ey eH
  cases (show u = Value.ref b from ry)
  obtain ⟨z, hd, xs, rel, dd⟩ := dx_of I.hok (.inl e) ks
  have hz : xs.length ≤ sizeLine := by rw [← Paired.length rel]; exact z
  have hl : (putX kvs k b v).length ≤ sizeLine := by have := putX_len (kvs := kvs) (k := k) (b := b) (v := v); omega
  refine wpAny_setItem_heap (hsz := hz) (show (nestedKind X.prog X.w).room A.in1 from by show A.in1.units + 8 < cLine; rw [Around.in1_units]; omega) (nk_of I.hok eb) dd fun h' dd' hs => h _ ?_
  obtain ⟨q, es, ep, hq, h2, h3, h4, _, h5⟩ := dd'
  refine d_write I (by rw [e]; exact True.intro) hs ⟨q, hq⟩ (dx_new ⟨hl, hd, _, put_rel rv rel, q, es, ep, hq, h2, h3, h4, h5⟩)
end
/-! readings and rules -/
def tXGet (hs : NestedKey → Int) (td ty : TE) : TE := fun σ H Q => td σ H fun x H1 => ty σ H1 fun y H2 => ∃ a v, x = .ref a ∧ XGet hs H2 a y (some v) ∧ Q v H2
def tXIn (hs : NestedKey → Int) (ty td : TE) : TE := fun σ H Q => ty σ H fun y H1 => td σ H1 fun x H2 => ∃ a o, x = .ref a ∧ XGet hs H2 a y o ∧ Q (.bl o.isSome) H2
def tXNotIn (hs : NestedKey → Int) (ty td : TE) : TE := fun σ H Q => ty σ H fun y H1 => td σ H1 fun x H2 => ∃ a o, x = .ref a ∧ XGet hs H2 a y o ∧ Q (.bl (!o.isSome)) H2
def sXPut (hs : NestedKey → Int) (td ty tv : TE) : TS := fun D σ H => tv σ H fun v H1 => td σ H1 fun x H2 => ty σ H2 fun y H3 => ∃ a H4, x = .ref a ∧ XPut hs H3 a y v H4 ∧ D.nx σ H4
section
variable {X : Cx} {o i e value : Expr} {pos pos' tpos : Pos} {td ty tv : TE}
theorem pe_xget (hu : X.A.units + 16 < cLine) (ho : PE X o td) (hi : PE X i ty) (hs : NoSl i) : PE X (.Subscript o i pos) (tXGet (NestedKey.hash X.w) td ty) := by
  refine ⟨fun pins s σ H Q I h => ?_⟩
  refine subD_of PySem.F.slot_dict_getitem.lookup hs (thn (ho.run pins s σ H _ I h) fun u s1 ⟨x, H1, I1, rx, q1⟩ => thn (hi.run pins s1 σ H1 _ I1 q1) fun iv s2 ⟨y, H2, I2, ry, a, v, ex, g, q2⟩ => ?_)
  subst ex
  obtain rfl : u = Value.ref a := rx
  exact ⟨x_typeIs I2 g, x_getItem hu I2 g ry fun w' s3 I3 rw' => ⟨v, H2, I3, rw', q2⟩⟩
theorem pc_xin (hu : X.A.units + 16 < cLine) (hi : PE X i ty) (ho : PE X o td) : PC X .In i o (tXIn (NestedKey.hash X.w) ty td) := by
  refine ⟨fun pins s σ H Q I h => ?_⟩
  refine thn (hi.run pins s σ H _ I h) fun iv s1 ⟨y, H1, I1, ry, q1⟩ => thn (ho.run pins s1 σ H1 _ I1 q1) fun u s2 ⟨x, H2, I2, rx, a, ov, ex, g, q2⟩ => ?_
  subst ex
  obtain rfl : u = Value.ref a := rx
  exact x_in hu I2 g ry fun s3 I3 => ⟨.bl ov.isSome, H2, I3, rfl, q2⟩
theorem pc_xnotin (hu : X.A.units + 16 < cLine) (hi : PE X i ty) (ho : PE X o td) : PC X .NotIn i o (tXNotIn (NestedKey.hash X.w) ty td) := by
  refine ⟨fun pins s σ H Q I h => ?_⟩
  refine thn (hi.run pins s σ H _ I h) fun iv s1 ⟨y, H1, I1, ry, q1⟩ => thn (ho.run pins s1 σ H1 _ I1 q1) fun u s2 ⟨x, H2, I2, rx, a, ov, ex, g, q2⟩ => ?_
  subst ex
  obtain rfl : u = Value.ref a := rx
  exact x_notIn hu I2 g ry fun s3 I3 => ⟨.bl (!ov.isSome), H2, I3, rfl, q2⟩
theorem ps_xput (hu : X.A.units + 16 < cLine) (ho : PE X o td) (hi : PE X i ty) (hv : PE X value tv) (hs : swapsWith value (some (.Subscript o i pos')) pos.line X.env = pure false) :
    PS X (.Assign [.Subscript o i pos'] value pos) (sXPut (NestedKey.hash X.w) td ty tv) := by
  refine ⟨fun pins s σ H D I h => ?_⟩
  refine wpAny_Assign_Subscript (thn (hv.run pins s σ H _ I h) fun r s1 ⟨v, H1, I1, rv, q1⟩ => thn (ho.run pins s1 σ H1 _ I1 q1) fun u s2 ⟨x, H2, I2, rx, q2⟩ => thn (hi.run pins s2 σ H2 _ I2 q2) fun iv s3 ⟨y, H3, I3, ry, a, H4, ex, g, q3⟩ => ?_) hs
  subst ex
  obtain rfl : u = Value.ref a := rx
  exact x_setItem hu I3 g ry rv fun s4 I4 => ⟨σ, H4, I4, q3⟩
/-- {} -/
def tXNew (hs : NestedKey → Int) : TE := fun _ H Q => ∀ p, H p = none → Q (.ref p) (upd H p (DX hs p []))
theorem pe_xnew {hs : NestedKey → Int} : PE X (.Dict [] [] pos) (tXNew hs) := ⟨fun pins s σ H Q I h =>
  wpAny_Dict_empty ⟨.ref s.heap.objs.size, _, I.laid (a := s.heap.objs.size) (o := DX hs s.heap.objs.size []) (t' := s.toks) (fun _ _ q => Heap.get?_push_of_some _ q) (Nat.le_refl _)
    (dx_new ⟨Nat.zero_le _, beq_eq_false_iff_ne.mpr (Ne.symm (Nat.ne_of_lt I.big)), [], .nil, _, #[], 0, Heap.get?_push_size _ rfl, ⟨rfl, rfl, rfl⟩, rfl, rfl, List.nodup_nil⟩), rfl, h _ (I.hok.fresh (Nat.le_refl _))⟩⟩
end
end Mp
/-! # MpNk2 -/
/-! dicts by tuples with None: get, walks -/
namespace Mp
open PySem PySem.Spec PyProof.Rows L2
section
variable {X : Cx} {pins : List (Addr × Obj)} {σ : L2.St} {H : Hp} {s : Shared} {a : Addr} {y v : V} {u r : Value} {o : Option V} {A : Around} {E : Value → Shared → Prop}
theorem x_get2 {d : V} {Q : Value → Shared → Prop} (hu : A.units + 16 < cLine) (I : Inv X pins σ H s) (g : XGet (NestedKey.hash X.w) H a y o) (ry : RelV y u) (rd : RelV d r) (h : ∀ w' s', Inv X pins σ H s' → RelV (o.getD d) w' → Q w' s') :
    wpAny (model X.prog X.w) A (call (.builtin "dict.get") [.ref a, u, r]) Q E s := by
  obtain ⟨kvs, k, b, e, ks, ey, eb, l⟩ := g
  subst ey
  cases (show u = Value.ref b from ry)
  obtain ⟨z, hd, xs, rel, dd⟩ := dx_of I.hok e ks
  refine call_meetsIn PySem.F.slot_dict_get dd.typeIs PySem.F.entry_dict_get (PySem.F.args_dict_get_3 _ _ _) (meetsH_dict_get_default (nestedKind X.prog X.w) a b hd r) ⟨show (nestedKind X.prog X.w).room A.in1 from by show A.in1.units + 8 < cLine; rw [Around.in1_units]; omega, nk k, xs, nk_of I.hok eb, dd, h _ _ (I.tok _) ?_⟩
  rw [l]
  exact (val_rel k rel).getD rd
end
/-- a is such a dict -/
def IsX (hs : NestedKey → Int) (H : Hp) (a : Addr) : Prop := ∃ kvs, Rd H a (DX hs a kvs) ∧ KeysAt H kvs
def tXGet2 (hs : NestedKey → Int) (td ty tx : TE) : TE := fun σ H Q => td σ H fun x H1 => ∃ a, x = .ref a ∧ IsX hs H1 a ∧ ty σ H1 fun y H2 => tx σ H2 fun z H3 => ∃ o, XGet hs H3 a y o ∧ Q (o.getD z) H3
section
variable {X : Cx} {o e f : Expr} {apos cpos : Pos} {td ty tx : TE}
theorem isX_at {pins : List (Addr × Obj)} {σ : L2.St} {H : Hp} {s : Shared} {a : Addr} (I : Inv X pins σ H s) (d : IsX (NestedKey.hash X.w) H a) :
    s.TypeIs (.ref a) "dict" ∧ (∀ b, Value.ref a = .ref b → ∃ ob, s.heap.get? b = some ob ∧ ob.dict = none) ∧ (a == sysModules) = false := by
  obtain ⟨kvs, e, ks⟩ := d
  obtain ⟨_, hd, xs, _, dd⟩ := dx_of I.hok e ks
  refine ⟨dd.typeIs, fun b q => ?_, hd⟩
  cases q
  obtain ⟨ob, _, _, h1, h2, _⟩ := dd
  exact ⟨ob, h1, h2.2.1⟩
theorem pe_xget2 (hu : X.A.units + 16 < cLine) (ho : PE X o td) (he : PE X e ty) (hf : PE X f tx) (m : M2 X o "get" apos e f cpos) : PE X (.Call (.Attribute o "get" apos) [e, f] [] cpos) (tXGet2 (NestedKey.hash X.w) td ty tx) := by
  refine ⟨fun pins s σ H Q I h => ?_⟩
  refine wpAny_Call_method m.base m.few m.line PySem.F.plainAttrs_dict PySem.F.slot_dict_get PySem.F.type_dict_get (thn (ho.run pins s σ H _ I h) fun u s1 ⟨x, H1, I1, rx, a, ex, d, q1⟩ => ?_)
  subst ex
  obtain rfl : u = Value.ref a := rx
  obtain ⟨t1, t2, _⟩ := isX_at I1 d
  refine ⟨t1, t2, ?_⟩
  rw [m.trees]
  refine Calls.callWith_builtin rfl (Calls.evalArgs_plain (Calls.spliced_cons (thn (he.run pins s1 σ H1 _ I1 q1) fun iv s2 ⟨y, H2, I2, ry, q2⟩ =>
    Calls.spliced_cons (thn (hf.run pins s2 σ H2 _ I2 q2) fun fv s3 ⟨z, H3, I3, rz, ov, g, q3⟩ => Calls.spliced_nil ?_))))
  exact x_get2 hu I3 g ry rz fun w' s4 I4 rw' => ⟨_, H3, I4, rw', q3⟩
end
/-! ## walks over a locked one -/
theorem ent_get {kvs : List Ent} {xs : List (NestedKey × Addr × Value)} (q : Paired EntR kvs xs) : ∀ {i : Nat} {p : Ent}, kvs[i]? = some p → ∃ x, xs[i]? = some x ∧ EntR p x := by
  induction q with
  | nil => intro i p h; simp at h
  | @cons a b as bs h t ih =>
    intro i p e
    cases i with
    | zero => simp at e; subst e; exact ⟨b, rfl, h⟩
    | succ i => simpa using ih (i := i) (by simpa using e)
theorem Inv.frzX {hs : NestedKey → Int} {X : Cx} {pins : List (Addr × Obj)} {σ : L2.St} {H : Hp} {s : Shared} {d : Addr} {o : Obj} {kvs : List Ent} (I : Inv X pins σ H s) (h : H d = some (.frz o (DX hs d kvs))) :
    (d == sysModules) = false ∧ s.heap.get? d = some o ∧ o.ExactDict ∧ ∃ (es : Array DictEntry) (ep : Nat), o.data = .dict es ep ∧ es.size = kvs.length ∧
      ∀ (i : Nat) (p : Ent), kvs[i]? = some p → ∃ en : DictEntry, es[i]? = some en ∧ en.key = .ref p.2.1 ∧ RelV p.2.2 en.val := by
  obtain ⟨hd, ⟨z, hs', xs, pr, o', es, ep, ho, hx, hdt, he, _⟩, _⟩ := I.hok d _ h
  rw [hd] at ho
  cases ho
  refine ⟨hs', hd, hx, es, ep, hdt, ?_, fun i p e => ?_⟩
  · have l1 : es.size = xs.length := by rw [← Array.length_toList, he, List.length_map]
    have l2 : kvs.length = xs.length := Paired.length pr
    omega
  · obtain ⟨x, hx1, r1, r2, r3⟩ := ent_get pr e
    refine ⟨entX hs x, ?_, by rw [← r2]; rfl, r3⟩
    rw [← Array.getElem?_toList, he, List.getElem?_map, hx1]
    rfl
/-- the keys: each its own tuple -/
def Itxk (hs : NestedKey → Int) (d : Addr) (o : Obj) (kvs : List Ent) : It :=
  ⟨fun i H => H d = some (.frz o (DX hs d kvs)) ∧ i < kvs.length, fun i H x H' => H' = H ∧ ∃ p : Ent, kvs[i]? = some p ∧ x = .ref p.2.1, fun i H => H d = some (.frz o (DX hs d kvs)) ∧ kvs.length ≤ i⟩
def Itxv (hs : NestedKey → Int) (d : Addr) (o : Obj) (kvs : List Ent) : It :=
  ⟨fun i H => H d = some (.frz o (DX hs d kvs)) ∧ i < kvs.length, fun i H x H' => H' = H ∧ ∃ p : Ent, kvs[i]? = some p ∧ x = p.2.2, fun i H => H d = some (.frz o (DX hs d kvs)) ∧ kvs.length ≤ i⟩
def Itxi (hs : NestedKey → Int) (d : Addr) (o : Obj) (kvs : List Ent) : It :=
  ⟨fun i H => H d = some (.frz o (DX hs d kvs)) ∧ i < kvs.length, fun i H x H' => ∃ T, ∃ p : Ent, kvs[i]? = some p ∧ x = .ref T ∧ H T = none ∧ H' = upd H T (.tup [.ref p.2.1, p.2.2]), fun i H => H d = some (.frz o (DX hs d kvs)) ∧ kvs.length ≤ i⟩
section
variable {hs : NestedKey → Int} {P : Program} {w : World} {K : PySem.W.Frag} {tg : Expr} {d : Addr} {o : Obj} {es : Array DictEntry} {ep : Nat} {kvs : List Ent}
theorem turn_xkeys (it : Addr) (hod : o.data = .dict es ep) : Turn P w K tg (Itxk hs d o kvs) [it] it (fun i h => h.IsKeyIter it d i kvs.length ep) where
  mem := by simp
  obj := fun i h st b hb => by
    have e : b = it := by simpa using hb
    subst e
    obtain ⟨oi, e, c, dd⟩ := st
    exact ⟨oi, e, fun v z => by rw [dd] at z; cases z⟩
  keep := fun i h h' st k => st.at fun oi e => k it (by simp) oi e
  item := by
    intro X hP hw hK hc i pins s σ H E I hf st hg
    subst hP hw hK
    obtain ⟨hd, hi⟩ := hg
    obtain ⟨f0, f1, f2, f3, f4, f5⟩ := hf it (by simp)
    obtain ⟨hs1, hgd, hx, es', ep', hdt, hsz, ent⟩ := Inv.frzX I hd
    obtain ⟨rfl, rfl⟩ := dict_ep hod hdt
    obtain ⟨p, hp⟩ : ∃ p, kvs[i]? = some p := ⟨kvs[i], List.getElem?_eq_getElem hi⟩
    obtain ⟨en, hen, hkey, _⟩ := ent i p hp
    refine next_key_item st hgd hdt hsz hen fun h' st' sb => ?_
    have I1 : Inv X pins σ H { s with heap := h' } := I.turned (t' := s.toks) (fun b ob hb e => (sb.2 b hb).trans e) f0 f1 f3 f4 f5
    obtain ⟨oi, e, c, dd⟩ := id st'
    exact ⟨en.key, rfl, go_of (s := { s with heap := h' }) e c dd (by decide) ⟨.ref p.2.1, H, I1, hkey, ⟨rfl, p, hp, rfl⟩, st', fun b hb => (hf b hb).1⟩⟩
  done := by
    intro X hP hw hK hc i pins s σ H E I hf st hg
    subst hP hw hK
    obtain ⟨hd, hi⟩ := hg
    obtain ⟨f0, f1, f2, f3, f4, f5⟩ := hf it (by simp)
    obtain ⟨hs1, hgd, hx, es', ep', hdt, hsz, ent⟩ := Inv.frzX I hd
    obtain ⟨rfl, rfl⟩ := dict_ep hod hdt
    exact next_key_end (I.ok.hd hc) st hgd hdt hsz hi fun h' eb => ⟨rfl, I.turned (t' := s.toks) (fun b ob hb e => eb b ob hb e) f0 f1 f3 f4 f5⟩
  self := fun A i s Q E st h => by
    refine wpAny_pyIter_slot st.typeIs F.slot_dict_keyiterator_iter (wpAny_call_entry F.slot_dict_keyiterator_iter st.typeIs F.entry_dict_keyiterator_iter ?_ (F.args_dict_keyiterator_iter_1 _))
    show wpAny _ _ (ret (.ref it)) _ _ s
    exact wpAny_pure ⟨_, rfl, "dict_keyiterator", _, st.typeIs, F.slot_dict_keyiterator_next.lookup, h⟩
theorem turn_xvals (it : Addr) (hod : o.data = .dict es ep) : Turn P w K tg (Itxv hs d o kvs) [it] it (fun i h => h.IsValIter it d i kvs.length ep) where
  mem := by simp
  obj := fun i h st b hb => by
    have e : b = it := by simpa using hb
    subst e
    obtain ⟨oi, e, c, dd⟩ := st
    exact ⟨oi, e, fun v z => by rw [dd] at z; cases z⟩
  keep := fun i h h' st k => st.at fun oi e => k it (by simp) oi e
  item := by
    intro X hP hw hK hc i pins s σ H E I hf st hg
    subst hP hw hK
    obtain ⟨hd, hi⟩ := hg
    obtain ⟨f0, f1, f2, f3, f4, f5⟩ := hf it (by simp)
    obtain ⟨hs1, hgd, hx, es', ep', hdt, hsz, ent⟩ := Inv.frzX I hd
    obtain ⟨rfl, rfl⟩ := dict_ep hod hdt
    obtain ⟨p, hp⟩ : ∃ p, kvs[i]? = some p := ⟨kvs[i], List.getElem?_eq_getElem hi⟩
    obtain ⟨en, hen, _, hval⟩ := ent i p hp
    have hlt : i < es'.size := (Array.getElem?_eq_some_iff.mp hen).1
    have hev : es'[i].val = en.val := by
      have := (Array.getElem?_eq_some_iff.mp hen).2
      rw [this]
    rw [← hsz] at st
    refine wpAny_pyNext_values_item_raw st ⟨o, hgd, hx, hdt⟩ hlt fun h' st' sb => ?_
    have I1 : Inv X pins σ H { s with heap := h' } := I.turned (t' := s.toks) (fun b ob hb e => (sb.2 b hb).trans e) f0 f1 f3 f4 f5
    obtain ⟨oi, e, c, dd⟩ := id st'
    refine ⟨es'[i].val, rfl, go_of (s := { s with heap := h' }) e c dd (by decide) ⟨p.2.2, H, I1, by rw [hev]; exact hval, ⟨rfl, p, hp, rfl⟩, ?_, fun b hb => (hf b hb).1⟩⟩
    show h'.IsValIter it d (i + 1) kvs.length _
    rw [← hsz]
    exact st'
  done := by
    intro X hP hw hK hc i pins s σ H E I hf st hg
    subst hP hw hK
    obtain ⟨hd, hi⟩ := hg
    obtain ⟨f0, f1, f2, f3, f4, f5⟩ := hf it (by simp)
    obtain ⟨hs1, hgd, hx, es', ep', hdt, hsz, ent⟩ := Inv.frzX I hd
    obtain ⟨rfl, rfl⟩ := dict_ep hod hdt
    rw [← hsz] at st
    exact wpAny_pyNext_values_end_raw (I.ok.hd hc) st ⟨o, hgd, hx, hdt⟩ (by omega) fun h' eb => ⟨rfl, I.turned (t' := s.toks) (fun b ob hb e => eb b ob hb e) f0 f1 f3 f4 f5⟩
  self := fun A i s Q E st h => wpAny_pyIter_valiter st h
theorem turn_xitems {elts : List Expr} {kk : Nat} {tpos : Pos} (it : Addr) (hod : o.data = .dict es ep) :
    Turn P w K (.Tuple elts kk tpos) (Itxi hs d o kvs) [it] it (fun i h => ∃ ok ov, IsItemIter h it d i kvs.length ep ok ov) where
  mem := by simp
  obj := fun i h st b hb => by
    have e : b = it := by simpa using hb
    subst e
    obtain ⟨ok, ov, e⟩ := st
    exact ⟨_, e, fun v z => nomatch z⟩
  keep := fun i h h' st k => let ⟨ok, ov, e⟩ := st; ⟨ok, ov, k it (by simp) _ e⟩
  item := by
    intro X hP hw hK hc i pins s σ H E I hf st hg
    subst hP hw hK
    obtain ⟨hd, hi⟩ := hg
    obtain ⟨hs1, hgd, hx, es', ep', hdt, hsz, ent⟩ := Inv.frzX I hd
    obtain ⟨rfl, rfl⟩ := dict_ep hod hdt
    obtain ⟨p, hp⟩ : ∃ p, kvs[i]? = some p := ⟨kvs[i], List.getElem?_eq_getElem hi⟩
    obtain ⟨en, hen, hkey, hval⟩ := ent i p hp
    obtain ⟨hlt0, hee⟩ := Array.getElem?_eq_some_iff.mp hen
    obtain ⟨ok, ov, he⟩ := st
    rw [← hsz] at he
    have hlt : it < s.heap.objs.size := Heap.lt_size he
    refine wpAny_pyNext_items_item_raw he ⟨o, hgd, hx, hdt⟩ hlt0 fun h' ho hT hz hk => ?_
    refine ⟨_, rfl, wpAny_letOwnedTupleGo_items (s := { s with heap := h' }) ho fun h'' he' sb => ?_⟩
    have hT2 : h''.get? s.heap.objs.size = some { cls := .type "tuple", data := .seq #[es'[i].key, es'[i].val] } := (sb.2 _ (Nat.ne_of_gt hlt)).trans hT
    have new : ObjOk X.prog X.w (upd H s.heap.objs.size (.tup [.ref p.2.1, p.2.2])) h'' s.heap.objs.size (.tup [.ref p.2.1, p.2.2]) :=
      ⟨by show 2 ≤ sizeLine; decide, [es'[i].key, es'[i].val], .cons (by rw [hee]; exact hkey) (.cons (by rw [hee]; exact hval) .nil), ⟨_, hT2, rfl, _, rfl⟩⟩
    have I1 : Inv X pins σ (upd H s.heap.objs.size (.tup [.ref p.2.1, p.2.2])) { s with heap := h'' } :=
      I.turnedNew (t' := s.toks) (ch := [it]) (fun b ob hb e => (sb.2 b (by simpa using hb)).trans (hk b ob (by simpa using hb) e)) hf (Nat.le_refl _) new
    refine ⟨.ref s.heap.objs.size, _, I1, rfl, ⟨_, p, hp, rfl, I.hok.fresh (Nat.le_refl _), rfl⟩, ⟨es'[i].key, es'[i].val, ?_⟩, fun b hb => ?_⟩
    · rw [← hsz]; exact he'
    · have e : b = it := by simpa using hb
      rw [e, upd_ne (Nat.ne_of_lt hlt)]
      exact (hf it (by simp)).1
  done := by
    intro X hP hw hK hc i pins s σ H E I hf st hg
    subst hP hw hK
    obtain ⟨hd, hi⟩ := hg
    obtain ⟨f0, f1, f2, f3, f4, f5⟩ := hf it (by simp)
    obtain ⟨hs1, hgd, hx, es', ep', hdt, hsz, ent⟩ := Inv.frzX I hd
    obtain ⟨rfl, rfl⟩ := dict_ep hod hdt
    obtain ⟨ok, ov, he⟩ := st
    rw [← hsz] at he
    exact wpAny_pyNext_items_end_raw (I.ok.hd hc) he ⟨o, hgd, hx, hdt⟩ (by omega) fun h' eb => ⟨rfl, I.turned (t' := s.toks) (fun b ob hb e => eb b ob hb e) f0 f1 f3 f4 f5⟩
  self := fun A i s Q E st h => let ⟨_, _, e⟩ := st; PySem.W.kcp_self e h
end
def iXKeys (hs : NestedKey → Int) (td : TE) : TI := fun σ H R => td σ H fun x H1 => ∃ d o kvs, x = .ref d ∧ H1 d = some (.frz o (DX hs d kvs)) ∧ R (Itxk hs d o kvs) H1
def iXVals (hs : NestedKey → Int) (td : TE) : TI := fun σ H R => td σ H fun x H1 => ∃ d o kvs, x = .ref d ∧ H1 d = some (.frz o (DX hs d kvs)) ∧ R (Itxv hs d o kvs) H1
def iXItems (hs : NestedKey → Int) (td : TE) : TI := fun σ H R => td σ H fun x H1 => ∃ d o kvs, x = .ref d ∧ H1 d = some (.frz o (DX hs d kvs)) ∧ R (Itxi hs d o kvs) H1
section
variable {hs : NestedKey → Int} {X : Cx} {tg e : Expr} {td : TE} {apos cpos : Pos}
theorem pi_xkeys (he : PE X e td) : PI X tg e (iXKeys hs td) := by
  refine ⟨fun pins s σ H R I h => ?_⟩
  refine thn (he.run pins s σ H _ I h) fun u s1 ⟨x, H1, I1, rx, d, o, kvs, ex, hd, q⟩ => ?_
  subst ex
  obtain rfl : u = Value.ref d := rx
  obtain ⟨hs1, hgd, hx, es, ep, hdt, hsz, ent⟩ := Inv.frzX I1 hd
  refine iter_keys hs1 hgd hx hdt (pi_one (tk := s1.toks) I1 _ (turn_xkeys _ hdt) ⟨_, Heap.get?_push_size _ rfl, rfl, ?_⟩ q)
  rw [hsz] <;> rfl
theorem pi_xvalues (he : PE X e td) (hbase : attributeBase e "values" X.env (eval e X.env) = eval e X.env := by rfl) (hline : (apos.endLine == cpos.line) = true := by rfl) : PI X tg (.Call (.Attribute e "values" apos) [] [] cpos) (iXVals hs td) := by
  refine ⟨fun pins s σ H R I h => ?_⟩
  refine wpAny_Call_method (T := "dict") (id := "dict.values") hbase rfl hline F.plainAttrs_dict F.slot_dict_values F.type_dict_values (thn (he.run pins s σ H _ I h) fun u s1 ⟨x, H1, I1, rx, d, o, kvs, ex, hd, q⟩ => ?_)
  subst ex
  obtain rfl : u = Value.ref d := rx
  obtain ⟨hs1, hgd, hx, es, ep, hdt, hsz, ent⟩ := Inv.frzX I1 hd
  have raw : s1.heap.DictRaw d es ep := ⟨o, hgd, hx, hdt⟩
  refine ⟨raw.typeIs, fun b q => by cases q; exact ⟨o, hgd, hx.2.1⟩, ?_⟩
  have I2 : Inv X pins σ H1 { s1 with heap := s1.heap.push { cls := .type "dict_values", data := .fields #[.ref d] } } := I1.kept (t' := s1.toks) fun b ob q => Heap.get?_push_of_some _ q
  have fin : wpAny (model X.prog X.w) X.A (pyIter (.ref s1.heap.objs.size)) (PIE X pins σ tg R) X.xe { s1 with heap := s1.heap.push { cls := .type "dict_values", data := .fields #[.ref d] } } := by
    refine wpAny_pyIter_values_raw (d := d) ⟨_, Heap.get?_push_size _ rfl, rfl, rfl⟩ (raw.at fun o q => Heap.get?_push_of_some _ q) (pi_one (tk := s1.toks) I2 _ (turn_xvals _ hdt) ⟨_, Heap.get?_push_size _ rfl, rfl, ?_⟩ q)
    rw [hsz] <;> rfl
  show wpAny _ _ (callWith cpos (.builtin "dict.values") [.ref d] [] []) _ X.xe s1
  exact method_meetsIn F.slot_dict_values F.entry_dict_values rfl (PySem.evalArgs_none ⟨rfl, raw.typeIs, F.args_dict_values_1 _, _, meets_dict_values_raw d hs1, ⟨es, ep, raw⟩, fin⟩)
theorem pi_xitems {elts : List Expr} {kk : Nat} {tpos : Pos} (he : PE X e td) (hbase : attributeBase e "items" X.env (eval e X.env) = eval e X.env := by rfl) (hline : (apos.endLine == cpos.line) = true := by rfl) :
    PI X (.Tuple elts kk tpos) (.Call (.Attribute e "items" apos) [] [] cpos) (iXItems hs td) := by
  refine ⟨fun pins s σ H R I h => ?_⟩
  refine wpAny_Call_method (T := "dict") (id := "dict.items") hbase rfl hline F.plainAttrs_dict F.slot_dict_items F.type_dict_items (thn (he.run pins s σ H _ I h) fun u s1 ⟨x, H1, I1, rx, d, o, kvs, ex, hd, q⟩ => ?_)
  subst ex
  obtain rfl : u = Value.ref d := rx
  obtain ⟨hs1, hgd, hx, es, ep, hdt, hsz, ent⟩ := Inv.frzX I1 hd
  have raw : s1.heap.DictRaw d es ep := ⟨o, hgd, hx, hdt⟩
  refine ⟨raw.typeIs, fun b q => by cases q; exact ⟨o, hgd, hx.2.1⟩, ?_⟩
  have I2 : Inv X pins σ H1 { s1 with heap := s1.heap.push { cls := .type "dict_items", data := .fields #[.ref d] } } := I1.kept (t' := s1.toks) fun b ob q => Heap.get?_push_of_some _ q
  have fin : wpAny (model X.prog X.w) X.A (pyIter (.ref s1.heap.objs.size)) (PIE X pins σ (.Tuple elts kk tpos) R) X.xe { s1 with heap := s1.heap.push { cls := .type "dict_items", data := .fields #[.ref d] } } := by
    refine wpAny_pyIter_items_raw (d := d) ⟨_, Heap.get?_push_size _ rfl, rfl, rfl⟩ (raw.at fun o q => Heap.get?_push_of_some _ q) (pi_one (tk := s1.toks) I2 _ (turn_xitems _ hdt) ⟨.none, .none, ?_⟩ q)
    rw [← hsz]
    exact Heap.get?_push_size _ rfl
  show wpAny _ _ (callWith cpos (.builtin "dict.items") [.ref d] [] []) _ X.xe s1
  exact method_meetsIn F.slot_dict_items F.entry_dict_items rfl (PySem.evalArgs_none ⟨rfl, raw.typeIs, F.args_dict_items_1 _, _, meets_dict_items_raw d hs1, ⟨es, ep, raw⟩, fin⟩)
theorem walk_xkeys {d : Addr} {o : Obj} {kvs : List Ent} : Walk (Itxk hs d o kvs) kvs.length (fun H => H d = some (.frz o (DX hs d kvs))) (fun i H x H' => H' = H ∧ ∃ p : Ent, kvs[i]? = some p ∧ x = .ref p.2.1) :=
  ⟨fun _ _ hi q => ⟨q, hi⟩, fun _ q => ⟨q, Nat.le_refl _⟩, fun _ _ _ _ _ _ y => y⟩
theorem walk_xvals {d : Addr} {o : Obj} {kvs : List Ent} : Walk (Itxv hs d o kvs) kvs.length (fun H => H d = some (.frz o (DX hs d kvs))) (fun i H x H' => H' = H ∧ ∃ p : Ent, kvs[i]? = some p ∧ x = p.2.2) :=
  ⟨fun _ _ hi q => ⟨q, hi⟩, fun _ q => ⟨q, Nat.le_refl _⟩, fun _ _ _ _ _ _ y => y⟩
theorem walk_xitems {d : Addr} {o : Obj} {kvs : List Ent} : Walk (Itxi hs d o kvs) kvs.length (fun H => H d = some (.frz o (DX hs d kvs))) (YPair (fun i => kvs[i]?.map fun p => V.ref p.2.1) (fun i => kvs[i]?.map fun p => p.2.2)) := by
  refine ⟨fun _ _ hi q => ⟨q, hi⟩, fun _ q => ⟨q, Nat.le_refl _⟩, fun i H x H' _ _ y => ?_⟩
  obtain ⟨T, p, h1, h2, h3, h4⟩ := y
  exact ⟨T, .ref p.2.1, p.2.2, h2, h3, h4, by simp [h1], by simp [h1]⟩
end
end Mp
/-! # MpA -/
namespace Mp
open PySem PySem.Spec L2

/-! ## deep values, cells -/
inductive D where
  | non | bl (b : Bool) | int (i : Int) | str (s : List Nat)
  | tup (xs : List D) | lst (xs : List D) | scr (ns : List Int) | dct (ks vs : List D) | dcL (ks vs : List D) | dcT (ks vs : List D)
  | obj (c : Nat) (ns : List Nat) (vs : List D)
  | loc (n : Nat) | exc (c : Nat) | cls (c : Nat) | ty (n : String) | fn (a c : Addr) (q : Str) (vs : List V) (ds : List D)
instance : Inhabited D := ⟨.non⟩
inductive Cell where
  | dead | lst (xs : List D) | dct (ks vs : List D) | dcT (ks vs : List D) | obj (c : Nat) (ns : List Nat) (vs : List D) | tbl (k : Nat)
abbrev Sto := List Cell
abbrev Env := List (Option D)
def Cell.live : Cell → Bool
  | .dead => false
  | _ => true
/-- codes to a text -/
def S (cs : List Nat) : Str := ⟨cs.toArray⟩
theorem S_len (cs : List Nat) : (S cs).length = cs.length := by simp [S, Str.length]
theorem S_inj {a b : List Nat} (h : S a = S b) : a = b := by
  have e : (S a).cps.toList = (S b).cps.toList := by rw [h]
  simpa [S] using e
theorem S_cat (a b : List Nat) : S a ++ S b = S (a ++ b) := by
  show (⟨a.toArray ++ b.toArray⟩ : Str) = ⟨(a ++ b).toArray⟩
  simp
/-- the tables: the written part, where classes stand, the fields' names -/
structure Tb where
  K : PySem.W.Frag
  ca : Nat → Addr
  fm : Nat → Str
  /-- the defs with a lambda: the code object, its table, the lambda's name -/
  tb : Nat → Addr × Str := fun _ => (0, "")
  /-- the hash of a key that is a tuple -/
  hs : NestedKey → Int := fun _ => 0

/-- a caught exception that is kept as a value -/
def ExV (cls : Value) (a : Addr) : HO := .ext fun h => ∃ oe : Obj, h.get? a = some oe ∧ Zc cls none oe ∧ ∃ vs, oe.data = .fields vs

def kD : Key → D
  | .inl i => .int i
  | .inr x => .str x.cps.toList
/-- a key that is a tuple -/
def kDs (k : List Key) : D := .tup (k.map kD)
/-- .. with None in it, perhaps -/
def kDn : Option Key → D
  | none => .non
  | some k => kD k
def kDN (k : NK) : D := .tup (k.map kDn)
theorem KeysAt.mono {F F' : Hp} {kvs : List Ent} (g : ∀ a o, F a = some o → F' a = some o) (h : KeysAt F kvs) : KeysAt F' kvs := fun p hp => g _ _ (h p hp)
mutual
/-- v stands for the deep value, over the part F of the heap that does not change; ι: where the cells are -/
def Rp (T : Tb) (F : Hp) (ι : List Addr) : D → V → Prop
  | .non, v => v = .non
  | .bl b, v => v = .bl b
  | .int i, v => v = .int i
  | .str s, v => v = .str (S s)
  | .tup xs, v => ∃ a vs, v = .ref a ∧ F a = some (.tup vs) ∧ Rps T F ι xs vs
  | .lst xs, v => ∃ a vs, v = .ref a ∧ F a = some (.lst vs) ∧ Rps T F ι xs vs
  | .scr ns, v => ∃ a, v = .ref a ∧ SqL T.K F a (ns.map V.int)
  | .dct ks xs, v => ∃ a kvs, v = .ref a ∧ Rd F a (.dK kvs) ∧ ks = kvs.map (fun p => kD p.1) ∧ Rps T F ι xs (kvs.map (·.2))
  | .dcL ks xs, v => ∃ a o kvs, v = .ref a ∧ F a = some (.frz o (.dK kvs)) ∧ ks = kvs.map (fun p => kD p.1) ∧ Rps T F ι xs (kvs.map (·.2))
  | .dcT ks xs, v => ∃ a o kvs, v = .ref a ∧ F a = some (.frz o (DX T.hs a kvs)) ∧ KeysAt F kvs ∧ ks = kvs.map (fun p => kDN p.1) ∧ Rps T F ι xs (kvs.map (·.2.2))
  | .obj c ns xs, v => ∃ a dx fs, v = .ref a ∧ F a = some (.ins (T.ca c) dx fs) ∧ fs.map (·.1) = ns.map T.fm ∧ Rps T F ι xs (fs.map (·.2))
  | .loc n, v => ∃ a, ι[n]? = some a ∧ v = .ref a
  | .exc c, v => ∃ a, v = .ref a ∧ F a = some (ExV (.ref (T.ca c)) a)
  | .cls c, v => v = .ref (T.ca c)
  | .ty n, v => v = .ty n
  | .fn a c q vs ds, v => v = .ref a ∧ F c = some (LamX.CodeO c q) ∧ Rps T F ι ds vs
def Rps (T : Tb) (F : Hp) (ι : List Addr) : List D → List V → Prop
  | [], vs => vs = []
  | x :: xs, vs => ∃ v r, vs = v :: r ∧ Rp T F ι x v ∧ Rps T F ι xs r
end
def Grow (F : Hp) (ι : List Addr) (F' : Hp) (ι' : List Addr) : Prop := (∀ a o, F a = some o → F' a = some o) ∧ ∃ more, ι' = ι ++ more
theorem Grow.refl (F : Hp) (ι : List Addr) : Grow F ι F ι := ⟨fun _ _ h => h, [], by simp⟩
theorem Grow.trans {F F1 F2 : Hp} {ι ι1 ι2 : List Addr} (a : Grow F ι F1 ι1) (b : Grow F1 ι1 F2 ι2) : Grow F ι F2 ι2 := by
  obtain ⟨a1, m, e⟩ := a
  obtain ⟨b1, n, f⟩ := b
  exact ⟨fun x o h => b1 x o (a1 x o h), m ++ n, by rw [f, e, List.append_assoc]⟩
theorem Grow.at {F F' : Hp} {ι ι' : List Addr} (g : Grow F ι F' ι') {n : Nat} {a : Addr} (h : ι[n]? = some a) : ι'[n]? = some a := by
  obtain ⟨_, m, rfl⟩ := g
  rw [List.getElem?_append_left (List.getElem?_eq_some_iff.mp h).1]
  exact h
theorem rd_mono {F F' : Hp} (g : ∀ a o, F a = some o → F' a = some o) {a : Addr} {u : HO} (h : Rd F a u) : Rd F' a u := by
  rcases h with h | ⟨o, h⟩
  · exact .inl (g _ _ h)
  · exact .inr ⟨o, g _ _ h⟩
theorem sql_mono {K : PySem.W.Frag} {F F' : Hp} (g : ∀ a o, F a = some o → F' a = some o) {a : Addr} {xs : List V} (h : SqL K F a xs) : SqL K F' a xs := by
  rcases h with h | h
  · exact .inl (rd_mono g h)
  · exact .inr h
mutual
theorem Rp.mono {T : Tb} {F F' : Hp} {ι ι' : List Addr} (g : Grow F ι F' ι') : ∀ {d : D} {v : V}, Rp T F ι d v → Rp T F' ι' d v
  | .non, _, h => by unfold Rp at h ⊢; exact h
  | .bl _, _, h => by unfold Rp at h ⊢; exact h
  | .int _, _, h => by unfold Rp at h ⊢; exact h
  | .str _, _, h => by unfold Rp at h ⊢; exact h
  | .tup xs, v, h => by
    unfold Rp at h ⊢
    obtain ⟨a, vs, e, q, r⟩ := h
    exact ⟨a, vs, e, g.1 _ _ q, Rps.mono g r⟩
  | .lst xs, v, h => by
    unfold Rp at h ⊢
    obtain ⟨a, vs, e, q, r⟩ := h
    exact ⟨a, vs, e, g.1 _ _ q, Rps.mono g r⟩
  | .scr ns, v, h => by
    unfold Rp at h ⊢
    obtain ⟨a, e, q⟩ := h
    exact ⟨a, e, sql_mono g.1 q⟩
  | .dct ks xs, v, h => by
    unfold Rp at h ⊢
    obtain ⟨a, kvs, e, q, k, r⟩ := h
    exact ⟨a, kvs, e, rd_mono g.1 q, k, Rps.mono g r⟩
  | .dcL ks xs, v, h => by
    unfold Rp at h ⊢
    obtain ⟨a, o, kvs, e, q, k, r⟩ := h
    exact ⟨a, o, kvs, e, g.1 _ _ q, k, Rps.mono g r⟩
  | .dcT ks xs, v, h => by
    unfold Rp at h ⊢
    obtain ⟨a, o, kvs, e, q, qk, k, r⟩ := h
    exact ⟨a, o, kvs, e, g.1 _ _ q, qk.mono g.1, k, Rps.mono g r⟩
  | .obj c ns xs, v, h => by
    unfold Rp at h ⊢
    obtain ⟨a, dx, fs, e, q, k, r⟩ := h
    exact ⟨a, dx, fs, e, g.1 _ _ q, k, Rps.mono g r⟩
  | .loc n, v, h => by
    unfold Rp at h ⊢
    obtain ⟨a, q, e⟩ := h
    exact ⟨a, g.at q, e⟩
  | .exc c, v, h => by
    unfold Rp at h ⊢
    obtain ⟨a, e, q⟩ := h
    exact ⟨a, e, g.1 _ _ q⟩
  | .cls _, _, h => by unfold Rp at h ⊢; exact h
  | .ty _, _, h => by unfold Rp at h ⊢; exact h
  | .fn _ _ _ vs ds, _, h => by
    unfold Rp at h ⊢
    exact ⟨h.1, g.1 _ _ h.2.1, Rps.mono g h.2.2⟩
theorem Rps.mono {T : Tb} {F F' : Hp} {ι ι' : List Addr} (g : Grow F ι F' ι') : ∀ {ds : List D} {vs : List V}, Rps T F ι ds vs → Rps T F' ι' ds vs
  | [], _, h => by unfold Rps at h ⊢; exact h
  | x :: xs, vs, h => by
    unfold Rps at h ⊢
    obtain ⟨v, r, e, p, q⟩ := h
    exact ⟨v, r, e, Rp.mono g p, Rps.mono g q⟩
end
theorem Rps.len {T : Tb} {F : Hp} {ι : List Addr} : ∀ {ds : List D} {vs : List V}, Rps T F ι ds vs → ds.length = vs.length
  | [], _, h => by unfold Rps at h; subst h; rfl
  | x :: xs, vs, h => by
    unfold Rps at h
    obtain ⟨v, r, rfl, _, q⟩ := h
    simp [q.len]
theorem Rps.get {T : Tb} {F : Hp} {ι : List Addr} : ∀ {ds : List D} {vs : List V} {i : Nat} {d : D}, Rps T F ι ds vs → ds[i]? = some d → ∃ v, vs[i]? = some v ∧ Rp T F ι d v
  | [], _, _, _, _, e => by simp at e
  | x :: xs, vs, 0, d, h, e => by
    unfold Rps at h
    obtain ⟨v, r, rfl, p, _⟩ := h
    simp at e
    subst e
    exact ⟨v, rfl, p⟩
  | x :: xs, vs, i + 1, d, h, e => by
    unfold Rps at h
    obtain ⟨v, r, rfl, _, q⟩ := h
    obtain ⟨u, e1, e2⟩ := q.get (i := i) (by simpa using e)
    exact ⟨u, by simpa using e1, e2⟩
theorem Rps.nil {T : Tb} {F : Hp} {ι : List Addr} : Rps T F ι [] [] := by unfold Rps; rfl
theorem Rps.cons {T : Tb} {F : Hp} {ι : List Addr} {d : D} {v : V} {ds : List D} {vs : List V} (h : Rp T F ι d v) (r : Rps T F ι ds vs) : Rps T F ι (d :: ds) (v :: vs) := by
  unfold Rps
  exact ⟨v, vs, rfl, h, r⟩
theorem Rps.app {T : Tb} {F : Hp} {ι : List Addr} : ∀ {ds es : List D} {vs us : List V}, Rps T F ι ds vs → Rps T F ι es us → Rps T F ι (ds ++ es) (vs ++ us)
  | [], _, _, _, h, k => by unfold Rps at h; subst h; exact k
  | x :: xs, es, vs, us, h, k => by
    unfold Rps at h
    obtain ⟨v, r, rfl, p, q⟩ := h
    exact .cons p (q.app k)
theorem Rps.take {T : Tb} {F : Hp} {ι : List Addr} : ∀ {ds : List D} {vs : List V} (n : Nat), Rps T F ι ds vs → Rps T F ι (ds.take n) (vs.take n)
  | _, _, 0, _ => by simpa using Rps.nil
  | [], _, n + 1, h => by unfold Rps at h; subst h; simpa using Rps.nil
  | x :: xs, vs, n + 1, h => by
    unfold Rps at h
    obtain ⟨v, r, rfl, p, q⟩ := h
    simpa using Rps.cons p (q.take n)
theorem Rps.drop {T : Tb} {F : Hp} {ι : List Addr} : ∀ {ds : List D} {vs : List V} (n : Nat), Rps T F ι ds vs → Rps T F ι (ds.drop n) (vs.drop n)
  | _, _, 0, h => by simpa using h
  | [], _, n + 1, h => by unfold Rps at h; subst h; simpa using Rps.nil
  | x :: xs, vs, n + 1, h => by
    unfold Rps at h
    obtain ⟨v, r, rfl, p, q⟩ := h
    simpa using q.drop n
theorem Rps.set {T : Tb} {F : Hp} {ι : List Addr} {d : D} {v : V} (h : Rp T F ι d v) : ∀ {ds : List D} {vs : List V} (n : Nat), Rps T F ι ds vs → Rps T F ι (ds.set n d) (vs.set n v)
  | [], _, n, k => by unfold Rps at k; subst k; simpa using Rps.nil
  | x :: xs, vs, 0, k => by
    unfold Rps at k
    obtain ⟨v, r, rfl, p, q⟩ := k
    exact .cons h q
  | x :: xs, vs, n + 1, k => by
    unfold Rps at k
    obtain ⟨v, r, rfl, p, q⟩ := k
    exact .cons p (q.set h n)

/-! ## the store and the heap -/
def CellAt (T : Tb) (ι : List Addr) (F H : Hp) (a : Addr) : Cell → Prop
  | .dead => True
  | .lst xs => F a = none ∧ ∃ vs, H a = some (.lst vs) ∧ Rps T F ι xs vs
  | .dct ks xs => F a = none ∧ ∃ kvs, H a = some (.dK kvs) ∧ ks = kvs.map (fun p => kD p.1) ∧ Rps T F ι xs (kvs.map (·.2))
  | .dcT ks xs => F a = none ∧ ∃ kvs, H a = some (DX T.hs a kvs) ∧ KeysAt F kvs ∧ ks = kvs.map (fun p => kDN p.1) ∧ Rps T F ι xs (kvs.map (·.2.2))
  | .obj c ns xs => F a = none ∧ ∃ dx fs, H a = some (.ins (T.ca c) dx fs) ∧ fs.map (·.1) = ns.map T.fm ∧ Rps T F ι xs (fs.map (·.2))
  | .tbl k => F a = none ∧ a = (T.tb k).1 ∧ ∃ ps : Array Value, H a = some (.tbl ps) ∧ TriplesOk ps.toList ∧ ∀ (pos : Pos) (cv : Value), codeAmong pos ps.toList = some cv → ∃ c, cv = .ref c ∧ F c = some (LamX.CodeO c (T.tb k).2)
structure RelH (T : Tb) (P : Hp) (ι : List Addr) (F : Hp) (s : Sto) (H : Hp) : Prop where
  sub : ∀ a o, F a = some o → H a = some o
  pro : ∀ a o, P a = some o → H a = some o
  dis : ∀ a o, P a = some o → F a = none
  len : ι.length = s.length
  cell : ∀ (n : Nat) c a, s[n]? = some c → ι[n]? = some a → CellAt T ι F H a c
  npr : ∀ (n : Nat) c a, s[n]? = some c → c.live = true → ι[n]? = some a → P a = none
  nod : ∀ (n m : Nat) c c' a, s[n]? = some c → s[m]? = some c' → c.live = true → c'.live = true → ι[n]? = some a → ι[m]? = some a → n = m
structure REnv (T : Tb) (F : Hp) (ι : List Addr) (δ : Env) (σ : L2.St) : Prop where
  len : δ.length = σ.length
  at_ : ∀ (i : Nat) d, δ[i]? = some (some d) → ∃ v, σ[i]? = some (some v) ∧ Rp T F ι d v
theorem REnv.mono {T : Tb} {F F' : Hp} {ι ι' : List Addr} {δ : Env} {σ : L2.St} (e : REnv T F ι δ σ) (g : Grow F ι F' ι') : REnv T F' ι' δ σ :=
  ⟨e.len, fun i d h => let ⟨v, e1, e2⟩ := e.at_ i d h; ⟨v, e1, e2.mono g⟩⟩
theorem REnv.set {T : Tb} {F : Hp} {ι : List Addr} {δ : Env} {σ : L2.St} {d : D} {v : V} (e : REnv T F ι δ σ) (h : Rp T F ι d v) (i : Nat) : REnv T F ι (δ.set i (some d)) (σ.set i (some v)) := by
  refine ⟨by simp [e.len], fun j d' hj => ?_⟩
  by_cases c : i = j
  · subst c
    have hl : i < δ.length := by
      have := (List.getElem?_eq_some_iff.mp hj).1
      simpa using this
    rw [List.getElem?_set_self hl] at hj
    cases hj
    exact ⟨v, by rw [List.getElem?_set_self (by rw [← e.len]; exact hl)], h⟩
  · rw [List.getElem?_set_ne c] at hj
    obtain ⟨u, e1, e2⟩ := e.at_ j d' hj
    exact ⟨u, by rw [List.getElem?_set_ne c]; exact e1, e2⟩
theorem REnv.unset {T : Tb} {F : Hp} {ι : List Addr} {δ : Env} {σ : L2.St} {o : Option V} (e : REnv T F ι δ σ) (i : Nat) : REnv T F ι (δ.set i none) (σ.set i o) := by
  refine ⟨by simp [e.len], fun j d' hj => ?_⟩
  by_cases c : i = j
  · subst c
    have hl : i < δ.length := by
      have := (List.getElem?_eq_some_iff.mp hj).1
      simpa using this
    rw [List.getElem?_set_self hl] at hj
    cases hj
  · rw [List.getElem?_set_ne c] at hj
    obtain ⟨u, e1, e2⟩ := e.at_ j d' hj
    exact ⟨u, by rw [List.getElem?_set_ne c]; exact e1, e2⟩

section
variable {T : Tb} {P : Hp} {ι : List Addr} {F : Hp} {s : Sto} {H : Hp}
theorem CellAt.grow {ι' : List Addr} {F' H' : Hp} {a : Addr} {c : Cell} (h : CellAt T ι F H a c) (g : Grow F ι F' ι') (hF : c.live = true → F' a = F a) (hH : c.live = true → H' a = H a) : CellAt T ι' F' H' a c := by
  cases c with
  | dead => trivial
  | lst xs =>
    obtain ⟨h1, vs, h2, h3⟩ := h
    exact ⟨by rw [hF rfl]; exact h1, vs, by rw [hH rfl]; exact h2, h3.mono g⟩
  | dct ks xs =>
    obtain ⟨h1, vs, h2, h3, h4⟩ := h
    exact ⟨by rw [hF rfl]; exact h1, vs, by rw [hH rfl]; exact h2, h3, h4.mono g⟩
  | dcT ks xs =>
    obtain ⟨h1, vs, h2, hk, h3, h4⟩ := h
    exact ⟨by rw [hF rfl]; exact h1, vs, by rw [hH rfl]; exact h2, hk.mono g.1, h3, h4.mono g⟩
  | obj c ns xs =>
    obtain ⟨h1, dx, vs, h2, h3, h4⟩ := h
    exact ⟨by rw [hF rfl]; exact h1, dx, vs, by rw [hH rfl]; exact h2, h3, h4.mono g⟩
  | tbl k =>
    obtain ⟨h1, h2, ps, h3, h4, h5⟩ := h
    exact ⟨by rw [hF rfl]; exact h1, h2, ps, by rw [hH rfl]; exact h3, h4, fun pos cv e => let ⟨c, e1, e2⟩ := h5 pos cv e; ⟨c, e1, g.1 _ _ e2⟩⟩
theorem CellAt.has {a : Addr} {c : Cell} (h : CellAt T ι F H a c) (hl : c.live = true) : ∃ o, H a = some o := by
  cases c with
  | dead => cases hl
  | lst xs => obtain ⟨_, vs, h2, _⟩ := h; exact ⟨_, h2⟩
  | dct ks xs => obtain ⟨_, vs, h2, _⟩ := h; exact ⟨_, h2⟩
  | dcT ks xs => obtain ⟨_, vs, h2, _⟩ := h; exact ⟨_, h2⟩
  | obj c ns xs => obtain ⟨_, dx, vs, h2, _⟩ := h; exact ⟨_, h2⟩
  | tbl k => obtain ⟨_, _, ps, h2, _⟩ := h; exact ⟨_, h2⟩
theorem RelH.freeF (R : RelH T P ι F s H) {p : Addr} (h : H p = none) : F p = none := by
  cases e : F p with
  | none => rfl
  | some o => rw [R.sub _ _ e] at h; cases h
theorem RelH.freeP (R : RelH T P ι F s H) {p : Addr} (h : H p = none) : P p = none := by
  cases e : P p with
  | none => rfl
  | some o => rw [R.pro _ _ e] at h; cases h
theorem grow_new (hF : F p = none) (o : HO) : Grow F ι (upd F p o) ι := ⟨fun a u h => by rw [upd_ne (ne_of_none h hF)]; exact h, [], by simp⟩
/-- a new object that stays as it is -/
theorem RelH.new (R : RelH T P ι F s H) {p : Addr} (hp : H p = none) (o : HO) : RelH T P ι (upd F p o) s (upd H p o) where
  sub := fun a u h => by
    by_cases c : a = p
    · subst c; rw [upd_same] at h ⊢; exact h
    · rw [upd_ne c] at h ⊢; exact R.sub a u h
  pro := fun a u h => by
    have q := R.pro a u h
    rw [upd_ne (ne_of_none q hp)]; exact q
  dis := fun a u h => by
    have q := R.pro a u h
    rw [upd_ne (ne_of_none q hp)]; exact R.dis a u h
  len := R.len
  cell := fun n c a h1 h2 => by
    have q := R.cell n c a h1 h2
    refine q.grow (grow_new (R.freeF hp) o) (fun l => ?_) (fun l => ?_)
    all_goals
      obtain ⟨u, hu⟩ := q.has l
      exact upd_ne (ne_of_none hu hp)
  npr := R.npr
  nod := R.nod
/-- a new object that is ours, under protection -/
theorem RelH.newP (R : RelH T P ι F s H) {p : Addr} (hp : H p = none) (o : HO) : RelH T (upd P p o) ι F s (upd H p o) where
  sub := fun a u h => by
    have q := R.sub a u h
    rw [upd_ne (ne_of_none q hp)]; exact q
  pro := fun a u h => by
    by_cases c : a = p
    · subst c; rw [upd_same] at h ⊢; exact h
    · rw [upd_ne c] at h ⊢; exact R.pro a u h
  dis := fun a u h => by
    by_cases c : a = p
    · subst c; exact R.freeF hp
    · rw [upd_ne c] at h; exact R.dis a u h
  len := R.len
  cell := fun n c a h1 h2 => by
    have q := R.cell n c a h1 h2
    refine q.grow (Grow.refl _ _) (fun _ => rfl) (fun l => ?_)
    obtain ⟨u, hu⟩ := q.has l
    exact upd_ne (ne_of_none hu hp)
  npr := fun n c a h1 l h2 => by
    obtain ⟨u, hu⟩ := (R.cell n c a h1 h2).has l
    rw [upd_ne (ne_of_none hu hp)]; exact R.npr n c a h1 l h2
  nod := R.nod
theorem RelH.setP (R : RelH T P ι F s H) {p : Addr} {u : HO} (hp : P p = some u) (o : HO) : RelH T (upd P p o) ι F s (upd H p o) where
  sub := fun a u h => by
    have n : a ≠ p := fun z => by subst z; rw [R.dis _ _ hp] at h; cases h
    rw [upd_ne n]; exact R.sub a u h
  pro := fun a u h => by
    by_cases c : a = p
    · subst c; rw [upd_same] at h ⊢; exact h
    · rw [upd_ne c] at h ⊢; exact R.pro a u h
  dis := fun a v h => by
    by_cases c : a = p
    · subst c; exact R.dis _ _ hp
    · rw [upd_ne c] at h; exact R.dis a v h
  len := R.len
  cell := fun n c a h1 h2 => by
    have q := R.cell n c a h1 h2
    refine q.grow (Grow.refl _ _) (fun _ => rfl) (fun l => ?_)
    have hn := R.npr n c a h1 l h2
    exact upd_ne (fun z => by subst z; rw [hp] at hn; cases hn)
  npr := fun n c a h1 l h2 => by
    have hn := R.npr n c a h1 l h2
    rw [upd_ne (fun z => by subst z; rw [hp] at hn; cases hn)]; exact hn
  nod := R.nod
/-- what was under protection stays as it is from now on -/
theorem RelH.thaw {o : HO} {p : Addr} (R : RelH T (upd P p o) ι F s H) (hp : P p = none) : RelH T P ι (upd F p o) s H where
  sub := fun a u h => by
    by_cases c : a = p
    · subst c; rw [upd_same] at h; exact R.pro a u (by rw [upd_same]; exact h)
    · rw [upd_ne c] at h; exact R.sub a u h
  pro := fun a u h => R.pro a u (by rw [upd_ne (ne_of_none h hp)]; exact h)
  dis := fun a u h => by
    rw [upd_ne (ne_of_none h hp)]
    exact R.dis a u (by rw [upd_ne (ne_of_none h hp)]; exact h)
  len := R.len
  cell := fun n c a h1 h2 => by
    have q := R.cell n c a h1 h2
    have hF : F p = none := R.dis p o upd_same
    refine q.grow (grow_new hF o) (fun l => ?_) (fun _ => rfl)
    have hn := R.npr n c a h1 l h2
    exact upd_ne (fun z => by subst z; rw [upd_same] at hn; cases hn)
  npr := fun n c a h1 l h2 => by
    have hn := R.npr n c a h1 l h2
    have ne : a ≠ p := fun z => by subst z; rw [upd_same] at hn; cases hn
    rw [upd_ne ne] at hn; exact hn
  nod := R.nod
end
end Mp
/-! # MpB -/
namespace Mp
open PySem PySem.Spec L2

/-! ## results -/
inductive Res (α : Type) where
  | ok (a : α) (s : Sto) | exc (c : Nat) (s : Sto) | stuck
def Res.bind {α β : Type} : Res α → (α → Sto → Res β) → Res β
  | .ok a s, k => k a s
  | .exc c s, _ => .exc c s
  | .stuck, _ => .stuck
abbrev DE := Env → Sto → Res D
abbrev DT := Env → Sto → Res Bool
abbrev DA := Env → Sto → Res (List D)
def Post {α β : Type} (T : Tb) (P : Hp) (Rl : Hp → List Addr → α → β → Prop) (Q : β → Hp → Prop) (E : Nat → Hp → Prop) (F : Hp) (ι : List Addr) : Res α → Prop
  | .ok d s' => ∀ v H' ι' F', Grow F ι F' ι' → RelH T P ι' F' s' H' → Rl F' ι' d v → Q v H'
  | .exc c s' => ∀ H' ι' F', Grow F ι F' ι' → RelH T P ι' F' s' H' → E c H'
  | .stuck => False
abbrev eqR {α : Type} : Hp → List Addr → α → α → Prop := fun _ _ a b => a = b
def DenG {α β : Type} (T : Tb) (Rl : Hp → List Addr → α → β → Prop) (W : WX) (t : L2.St → Hp → (β → Hp → Prop) → Prop) (f : Env → Sto → Res α) : Prop :=
  ∀ σ H P ι F δ s Q, RelH T P ι F s H → REnv T F ι δ σ → Post T P Rl Q (fun c H' => W (.ref (T.ca c)) none σ H') F ι (f δ s) → t σ H Q
theorem Post.mono {α β : Type} {T : Tb} {P : Hp} {Rl : Hp → List Addr → α → β → Prop} {Q : β → Hp → Prop} {E : Nat → Hp → Prop} {F F1 : Hp} {ι ι1 : List Addr} {r : Res α} (g : Grow F ι F1 ι1) (h : Post T P Rl Q E F ι r) : Post T P Rl Q E F1 ι1 r := by
  cases r with
  | ok d s => exact fun v H' ι' F' g' => h v H' ι' F' (g.trans g')
  | exc c s => exact fun H' ι' F' g' => h H' ι' F' (g.trans g')
  | stuck => exact h
/-- the value is at hand -/
theorem Post.here {α β : Type} {T : Tb} {P : Hp} {Rl : Hp → List Addr → α → β → Prop} {Q : β → Hp → Prop} {E : Nat → Hp → Prop} {F : Hp} {ι : List Addr} {d : α} {s : Sto} {H : Hp} {v : β} (h : Post T P Rl Q E F ι (.ok d s)) (R : RelH T P ι F s H) (r : Rl F ι d v) : Q v H :=
  h v H ι F (Grow.refl _ _) R r
theorem Post.new {α : Type} {T : Tb} {P : Hp} {Rl : Hp → List Addr → α → V → Prop} {Q : V → Hp → Prop} {E : Nat → Hp → Prop} {F : Hp} {ι : List Addr} {d : α} {s : Sto} {H : Hp} {p : Addr} {o : HO} (h : Post T P Rl Q E F ι (.ok d s)) (R : RelH T P ι F s H) (hp : H p = none) (r : Grow F ι (upd F p o) ι → Rl (upd F p o) ι d (.ref p)) : Q (.ref p) (upd H p o) :=
  h _ _ _ _ (grow_new (R.freeF hp) o) (R.new hp o) (r (grow_new (R.freeF hp) o))
/-- one after another -/
theorem den_then {α β α2 β2 : Type} {T : Tb} {R1 : Hp → List Addr → α → β → Prop} {R2 : Hp → List Addr → α2 → β2 → Prop} {W : WX} {t : L2.St → Hp → (β → Hp → Prop) → Prop} {f : Env → Sto → Res α} {k : α → Sto → Res α2}
    {σ : L2.St} {H P : Hp} {ι : List Addr} {F : Hp} {δ : Env} {s : Sto} {Q : β2 → Hp → Prop} {G : β → Hp → Prop} (h1 : DenG T R1 W t f) (R : RelH T P ι F s H) (E : REnv T F ι δ σ)
    (post : Post T P R2 Q (fun c H' => W (.ref (T.ca c)) none σ H') F ι ((f δ s).bind k))
    (hk : ∀ x y H1 ι1 F1 s1, Grow F ι F1 ι1 → RelH T P ι1 F1 s1 H1 → REnv T F1 ι1 δ σ → R1 F1 ι1 x y → Post T P R2 Q (fun c H' => W (.ref (T.ca c)) none σ H') F1 ι1 (k x s1) → G y H1) : t σ H G := by
  refine h1 σ H P ι F δ s G R E ?_
  cases e : f δ s with
  | ok x s1 =>
    rw [e] at post
    exact fun v H' ι' F' g R' r => hk x v H' ι' F' s1 g R' (E.mono g) r (post.mono g)
  | exc c s1 =>
    rw [e] at post
    exact post
  | stuck =>
    rw [e] at post
    exact post

/-! ## judgements: a derivation in HandS and what it evaluates to -/
def PDe (T : Tb) (X : Cx) (e : Expr) (f : DE) : Prop := ∀ pn xe W, Takes (X.tr pn xe) W → ∃ t, PE (X.tr pn xe) e t ∧ DenG T (Rp T) W t f
def PDt (T : Tb) (X : Cx) (e : Expr) (f : DT) : Prop := ∀ pn xe W, Takes (X.tr pn xe) W → ∃ t, PT (X.tr pn xe) e t ∧ DenG T eqR W t f
abbrev RpsN (T : Tb) (n : Nat) : Hp → List Addr → List D → List V → Prop := fun F ι ds vs => Rps T F ι ds vs ∧ vs.length = n
def PDa (T : Tb) (X : Cx) (es : List Expr) (f : DA) : Prop := ∀ pn xe W, Takes (X.tr pn xe) W → ∃ t, PA (X.tr pn xe) es t ∧ DenG T (RpsN T es.length) W t f

/-! ## names and constants -/
def dVar (i : Nat) : DE := fun δ s => match δ[i]? with
  | some (some d) => .ok d s
  | _ => .stuck
def dC (d : D) : DE := fun _ s => .ok d s
section
variable {T : Tb} {X : Cx}
theorem d_var {x : Str} {pos : Pos} (i : Nat) (hN : X.N[i]? = some x := by rfl) (hv : Vis X.env.scope x := by first | exact Or.inl rfl | exact Or.inr (Or.inl rfl) | exact Or.inr (Or.inr rfl)) (hd : (x == ("__debug__" : Str)) = false := by decide)
    (hcd : (x == ("__classdict__" : Str)) = false := by decide) : PDe T X (.Name x pos) (dVar i) := by
  intro pn xe W tk
  refine ⟨_, pe_var (i := i) (X := X.tr pn xe) hN hv hd hcd, fun σ H P ι F δ s Q R E post => ?_⟩
  unfold dVar at post
  cases e : δ[i]? with
  | none => rw [e] at post; exact post.elim
  | some o =>
    cases o with
    | none => rw [e] at post; exact post.elim
    | some d =>
      rw [e] at post
      obtain ⟨v, e1, e2⟩ := E.at_ i d e
      exact ⟨v, e1, post.here R e2⟩
theorem den_c {W : WX} {d : D} {v : V} (h : ∀ F ι, Rp T F ι d v) : DenG T (Rp T) W (tC v) (dC d) := fun _ _ _ ι F _ _ _ R _ post => post.here R (h F ι)
theorem d_int {i j pos} : PDe T X (.Constant (.int i) j pos) (dC (.int i)) := fun pn xe W _ => ⟨_, pe_int, den_c fun _ _ => by unfold Rp; rfl⟩
theorem d_bl {b j pos} : PDe T X (.Constant (.bool b) j pos) (dC (.bl b)) := fun pn xe W _ => ⟨_, pe_bl, den_c fun _ _ => by unfold Rp; rfl⟩
theorem d_non {j pos} : PDe T X (.Constant .none j pos) (dC .non) := fun pn xe W _ => ⟨_, pe_non, den_c fun _ _ => by unfold Rp; rfl⟩
theorem d_str {x : Str} {j pos} (cs : List Nat) (h : x = S cs) : PDe T X (.Constant (.str x) j pos) (dC (.str cs)) := fun pn xe W _ => ⟨_, pe_str, den_c fun _ _ => by unfold Rp; rw [h]⟩
/-- a module's constant -/
theorem d_glob {x : Str} {pos : Pos} {d : D} {v : V} (h : ∀ F ι, Rp T F ι d v) (hm : ∃ u, X.mg x = some u ∧ RelV v u) (hg : Gl X x := by rfl) (hd : (x == ("__debug__" : Str)) = false := by decide) : PDe T X (.Name x pos) (dC d) := fun pn xe W _ => by
  obtain ⟨u, h1, h2⟩ := hm
  exact ⟨_, pe_glob (X := X.tr pn xe) hg h1 h2 hd, den_c h⟩
/-- a built-in class as a value -/
theorem d_ty {x : Str} {pos : Pos} (n : String) (hm : X.mg x = none) (hv : bootBuiltins x = some (.type n)) (hg : Gl X x := by rfl) (hn : x ≠ "__name__" := by decide) (hd : (x == ("__debug__" : Str)) = false := by decide) : PDe T X (.Name x pos) (dC (.ty n)) := fun pn xe W _ =>
  ⟨_, pe_bltn (X := X.tr pn xe) (v := .ty n) hg hm hv rfl hn hd, den_c fun _ _ => by unfold Rp; rfl⟩
/-- a class of the text as a value -/
theorem d_cls {x : Str} {pos : Pos} (c : Nat) (hm : X.mg x = some (.ref (T.ca c))) (hg : Gl X x := by rfl) (hd : (x == ("__debug__" : Str)) = false := by decide) : PDe T X (.Name x pos) (dC (.cls c)) := fun pn xe W _ =>
  ⟨_, pe_glob (X := X.tr pn xe) (v := .ref (T.ca c)) hg hm rfl hd, den_c fun _ _ => by unfold Rp; rfl⟩

/-! ## arguments -/
def aNil : DA := fun _ s => .ok [] s
def aCons (f : DE) (g : DA) : DA := fun δ s => (f δ s).bind fun x s1 => (g δ s1).bind fun xs s2 => .ok (x :: xs) s2
theorem a_nil : PDa T X [] aNil := fun pn xe W _ => ⟨_, pa_nil, fun _ _ _ _ _ _ _ _ R _ post => post.here R ⟨.nil, rfl⟩⟩
theorem a_cons {e : Expr} {es : List Expr} {f : DE} {g : DA} (he : PDe T X e f) (hr : PDa T X es g) (hs : starEach (e :: es) X.env = (false, eval e X.env) :: starEach es X.env := by rfl) : PDa T X (e :: es) (aCons f g) := fun pn xe W tk => by
  obtain ⟨t1, p1, d1⟩ := he pn xe W tk
  obtain ⟨t2, p2, d2⟩ := hr pn xe W tk
  refine ⟨_, pa_cons (X := X.tr pn xe) p1 p2 hs, fun σ H P ι F δ s Q R E post => ?_⟩
  show t1 σ H _
  refine den_then d1 R E post fun x y H1 ι1 F1 s1 g1 R1 E1 r1 post1 => ?_
  refine den_then d2 R1 E1 post1 fun xs ys H2 ι2 F2 s2 g2 R2 E2 r2 post2 => ?_
  exact post2.here R2 ⟨.cons (r1.mono g2) r2.1, congrArg Nat.succ r2.2⟩

/-! ## operators -/
abbrev DOp := D → D → Sto → Res D
def dOp (op : DOp) (fa fb : DE) : DE := fun δ s => (fa δ s).bind fun x s1 => (fb δ s1).bind fun y s2 => op x y s2
/-- what an operator's reading asks follows from the deep one -/
def DenOp (T : Tb) (r : R2) (op : DOp) : Prop := ∀ x y dx dy H P ι F s Q E, RelH T P ι F s H → Rp T F ι dx x → Rp T F ι dy y → Post T P (Rp T) Q E F ι (op dx dy s) → r x y H Q
theorem den_op {W : WX} {r : R2} {op : DOp} {ta tb : TE} {fa fb : DE} (ho : DenOp T r op) (ha : DenG T (Rp T) W ta fa) (hb : DenG T (Rp T) W tb fb) : DenG T (Rp T) W (tOp r ta tb) (dOp op fa fb) := fun σ H P ι F δ s Q R E post => by
  show ta σ H _
  refine den_then ha R E post fun x y H1 ι1 F1 s1 g1 R1 E1 r1 post1 => ?_
  refine den_then hb R1 E1 post1 fun x2 y2 H2 ι2 F2 s2 g2 R2 E2 r2 post2 => ?_
  exact ho _ _ _ _ _ _ _ _ _ _ _ R2 (r1.mono g2) r2 post2
theorem d_op {a b : Expr} {pos : Pos} {op : Operator} {r : R2} {o : DOp} {fa fb : DE} (hr : ∀ pn xe, OpR (X.tr pn xe) (binaryOp op) r) (ho : DenOp T r o) (ha : PDe T X a fa) (hb : PDe T X b fb) : PDe T X (.BinOp a op b pos) (dOp o fa fb) := fun pn xe W tk => by
  obtain ⟨t1, p1, d1⟩ := ha pn xe W tk
  obtain ⟨t2, p2, d2⟩ := hb pn xe W tk
  exact ⟨_, pe_op (hr pn xe) p1 p2, den_op ho d1 d2⟩
theorem d_cmp {a b : Expr} {pos : Pos} {op : CmpOp} {r : R2} {o : DOp} {fa fb : DE} (hr : ∀ pn xe, OpR (X.tr pn xe) (compareOp op) r) (ho : DenOp T r o) (ha : PDe T X a fa) (hb : PDe T X b fb) (hm : behindInMarks op b = false) : PDe T X (.Compare a [op] [b] pos) (dOp o fa fb) := fun pn xe W tk => by
  obtain ⟨t1, p1, d1⟩ := ha pn xe W tk
  obtain ⟨t2, p2, d2⟩ := hb pn xe W tk
  exact ⟨_, pe_cmpR (hr pn xe) p1 p2 hm, den_op ho d1 d2⟩
/-- a value that is True or False, as a test -/
def tst (f : DE) : DT := fun δ s => (f δ s).bind fun x s1 => match x with
  | .bl b => .ok b s1
  | _ => .stuck
theorem den_tst {W : WX} {t : TE} {f : DE} (h : DenG T (Rp T) W t f) : DenG T eqR W (fun σ H Q => t σ H fun x H' => ∃ k, x = .bl k ∧ Q k H') (tst f) := fun σ H P ι F δ s Q R E post => by
  refine den_then h R E post fun x y H1 ι1 F1 s1 g1 R1 E1 r1 post1 => ?_
  cases x with
  | bl b =>
    unfold Rp at r1
    exact ⟨b, r1, post1.here R1 rfl⟩
  | _ => exact post1.elim
theorem t_cmp {a b : Expr} {pos : Pos} {op : CmpOp} {r : R2} {o : DOp} {fa fb : DE} (hr : ∀ pn xe, OpR (X.tr pn xe) (compareOp op) r) (ho : DenOp T r o) (ha : PDe T X a fa) (hb : PDe T X b fb) (hm : behindInMarks op b = false) : PDt T X (.Compare a [op] [b] pos) (tst (dOp o fa fb)) := fun pn xe W tk => by
  obtain ⟨t1, p1, d1⟩ := ha pn xe W tk
  obtain ⟨t2, p2, d2⟩ := hb pn xe W tk
  exact ⟨_, pt_cmpR (hr pn xe) p1 p2 hm, den_tst (den_op ho d1 d2)⟩
theorem t_val {e : Expr} {f : DE} (h : PDe T X e f) (he : ∀ whole, isTrue e X.env whole = (do let v ← whole; standAt e.pos; holding [v] (truthy v)) := by intro _; rfl) : PDt T X e (tst f) := fun pn xe W tk => by
  obtain ⟨t1, p1, d1⟩ := h pn xe W tk
  exact ⟨_, pt_val (X := X.tr pn xe) p1 he, den_tst d1⟩
/-- a < b < c -/
def dChain (op op' : DOp) (fa fb fc : DE) : DE := fun δ s => (fa δ s).bind fun x s1 => (fb δ s1).bind fun y s2 => (op x y s2).bind fun z s3 => match z with
  | .bl true => (fc δ s3).bind fun w s4 => op' y w s4
  | .bl false => .ok (.bl false) s3
  | _ => .stuck
theorem den_op1 {W : WX} {r : R2} {op : DOp} (ho : DenOp T r op) {x y : V} {dx dy : D} {H P : Hp} {ι : List Addr} {F : Hp} {δ : Env} {s : Sto} {σ : L2.St} {Q : VK} {G : VK} {k : D → Sto → Res D} (R : RelH T P ι F s H) (E : REnv T F ι δ σ) (rx : Rp T F ι dx x) (ry : Rp T F ι dy y)
    (post : Post T P (Rp T) Q (fun c H' => W (.ref (T.ca c)) none σ H') F ι ((op dx dy s).bind k))
    (hk : ∀ x y H1 ι1 F1 s1, Grow F ι F1 ι1 → RelH T P ι1 F1 s1 H1 → REnv T F1 ι1 δ σ → Rp T F1 ι1 x y → Post T P (Rp T) Q (fun c H' => W (.ref (T.ca c)) none σ H') F1 ι1 (k x s1) → G y H1) : r x y H G :=
  den_then (T := T) (W := W) (t := fun σ' H' Q' => ∀ (P' : Hp) ι' F' s', RelH T P' ι' F' s' H' → Rp T F' ι' dx x → Rp T F' ι' dy y → Post T P' (Rp T) Q' (fun c H' => W (.ref (T.ca c)) none σ H') F' ι' (op dx dy s') → r x y H' Q') (f := fun _ s' => op dx dy s')
    (fun σ' H' P' ι' F' δ' s' Q' R' E' post' P'' ι'' F'' s'' R'' a b c => ho _ _ _ _ _ _ _ _ _ _ _ R'' a b c) R E post hk P ι F s R rx ry (by
      cases e : op dx dy s with
      | ok a b => rw [e] at post; exact fun v H' ι' F' g R' r => hk a v H' ι' F' b g R' (E.mono g) r (post.mono g)
      | exc c b => rw [e] at post; exact post
      | stuck => rw [e] at post; exact post)
theorem den_chain {W : WX} {r r' : R2} {o o' : DOp} {ta tb tc : TE} {fa fb fc : DE} (ho : DenOp T r o) (ho' : DenOp T r' o') (d1 : DenG T (Rp T) W ta fa) (d2 : DenG T (Rp T) W tb fb) (d3 : DenG T (Rp T) W tc fc) : DenG T (Rp T) W (tChain r r' ta tb tc) (dChain o o' fa fb fc) := fun σ H P ι F δ s Q R E post => by
  show ta σ H _
  refine den_then d1 R E post fun x y H1 ι1 F1 s1 g1 R1 E1 r1 post1 => ?_
  refine den_then d2 R1 E1 post1 fun x2 y2 H2 ι2 F2 s2 g2 R2 E2 r2 post2 => ?_
  refine den_op1 ho R2 E2 (r1.mono g2) r2 post2 fun z w H3 ι3 F3 s3 g3 R3 E3 r3 post3 => ?_
  cases z with
  | bl b =>
    unfold Rp at r3
    refine ⟨b, r3, ?_⟩
    cases b with
    | true =>
      rw [if_pos rfl]
      refine den_then d3 R3 E3 post3 fun x4 y4 H4 ι4 F4 s4 g4 R4 E4 r4 post4 => ?_
      exact ho' _ _ _ _ _ _ _ _ _ _ _ R4 ((r2.mono g3).mono g4) r4 post4
    | false =>
      rw [if_neg Bool.false_ne_true]
      exact post3.here R3 (by unfold Rp; rfl)
  | _ => exact post3.elim
theorem d_chain {a b c : Expr} {pos : Pos} {op op' : CmpOp} {r r' : R2} {o o' : DOp} {fa fb fc : DE} (hr : ∀ pn xe, OpR (X.tr pn xe) (compareOp op) r) (hr' : ∀ pn xe, OpR (X.tr pn xe) (compareOp op') r') (ho : DenOp T r o) (ho' : DenOp T r' o')
    (ha : PDe T X a fa) (hb : PDe T X b fb) (hc : PDe T X c fc) (hm : lastMarks [op, op'] [b, c] = false := by with_unfolding_all rfl) : PDe T X (.Compare a [op, op'] [b, c] pos) (dChain o o' fa fb fc) := fun pn xe W tk => by
  obtain ⟨t1, p1, d1⟩ := ha pn xe W tk
  obtain ⟨t2, p2, d2⟩ := hb pn xe W tk
  obtain ⟨t3, p3, d3⟩ := hc pn xe W tk
  exact ⟨_, pe_chain (hr pn xe) (hr' pn xe) p1 p2 p3 hm, den_chain ho ho' d1 d2 d3⟩
theorem t_chain {a b c : Expr} {pos : Pos} {op op' : CmpOp} {r r' : R2} {o o' : DOp} {fa fb fc : DE} (hr : ∀ pn xe, OpR (X.tr pn xe) (compareOp op) r) (hr' : ∀ pn xe, OpR (X.tr pn xe) (compareOp op') r') (ho : DenOp T r o) (ho' : DenOp T r' o')
    (ha : PDe T X a fa) (hb : PDe T X b fb) (hc : PDe T X c fc) (hm : lastMarks [op, op'] [b, c] = false := by with_unfolding_all rfl) : PDt T X (.Compare a [op, op'] [b, c] pos) (tst (dChain o o' fa fb fc)) := fun pn xe W tk => by
  obtain ⟨t1, p1, d1⟩ := ha pn xe W tk
  obtain ⟨t2, p2, d2⟩ := hb pn xe W tk
  obtain ⟨t3, p3, d3⟩ := hc pn xe W tk
  exact ⟨_, pt_chain (hr pn xe) (hr' pn xe) p1 p2 p3 hm, den_tst (den_chain ho ho' d1 d2 d3)⟩

/-! ## and, or, not, if-expressions -/
def tAndD (f g : DT) : DT := fun δ s => (f δ s).bind fun b s1 => match b with
  | true => g δ s1
  | false => .ok false s1
def tOrD (f g : DT) : DT := fun δ s => (f δ s).bind fun b s1 => match b with
  | true => .ok true s1
  | false => g δ s1
def tNotD (f : DT) : DT := fun δ s => (f δ s).bind fun b s1 => .ok (!b) s1
def PDw (T : Tb) (X : Cx) (e : Expr) (f : DT) : Prop := ∀ pn xe W, Takes (X.tr pn xe) W → ∃ t, PW (X.tr pn xe) e t ∧ DenG T eqR W t f
theorem PDw.t {e : Expr} {f : DT} (h : PDw T X e f) : PDt T X e f := fun pn xe W tk => by
  obtain ⟨t, p, d⟩ := h pn xe W tk
  exact ⟨t, p.pt, d⟩
section
variable {a b : Expr} {rest : List Expr} {pos : Pos} {fa fb : DT}
theorem w_and1 (ha : PDt T X a fa) : PDw T X (.BoolOp .And [a] pos) fa := fun pn xe W tk => by
  obtain ⟨t, p, d⟩ := ha pn xe W tk
  exact ⟨t, pw_and1 p, d⟩
theorem w_or1 (ha : PDt T X a fa) : PDw T X (.BoolOp .Or [a] pos) fa := fun pn xe W tk => by
  obtain ⟨t, p, d⟩ := ha pn xe W tk
  exact ⟨t, pw_or1 p, d⟩
theorem w_and (ha : PDt T X a fa) (hb : PDw T X (.BoolOp .And (b :: rest) pos) fb) : PDw T X (.BoolOp .And (a :: b :: rest) pos) (tAndD fa fb) := fun pn xe W tk => by
  obtain ⟨t1, p1, d1⟩ := ha pn xe W tk
  obtain ⟨t2, p2, d2⟩ := hb pn xe W tk
  refine ⟨_, pw_and p1 p2, fun σ H P ι F δ s Q R E post => ?_⟩
  show t1 σ H _
  refine den_then d1 R E post fun x y H1 ι1 F1 s1 g1 R1 E1 r1 post1 => ?_
  cases r1
  cases x with
  | true =>
    rw [if_pos rfl]
    exact d2 _ _ _ _ _ _ _ _ R1 E1 post1
  | false =>
    rw [if_neg Bool.false_ne_true]
    exact post1.here R1 rfl
theorem w_or (ha : PDt T X a fa) (hb : PDw T X (.BoolOp .Or (b :: rest) pos) fb) : PDw T X (.BoolOp .Or (a :: b :: rest) pos) (tOrD fa fb) := fun pn xe W tk => by
  obtain ⟨t1, p1, d1⟩ := ha pn xe W tk
  obtain ⟨t2, p2, d2⟩ := hb pn xe W tk
  refine ⟨_, pw_or p1 p2, fun σ H P ι F δ s Q R E post => ?_⟩
  show t1 σ H _
  refine den_then d1 R E post fun x y H1 ι1 F1 s1 g1 R1 E1 r1 post1 => ?_
  cases r1
  cases x with
  | true =>
    rw [if_pos rfl]
    exact post1.here R1 rfl
  | false =>
    rw [if_neg Bool.false_ne_true]
    exact d2 _ _ _ _ _ _ _ _ R1 E1 post1
theorem t_not (ha : PDt T X a fa) : PDt T X (.UnaryOp .Not a pos) (tNotD fa) := fun pn xe W tk => by
  obtain ⟨t1, p1, d1⟩ := ha pn xe W tk
  refine ⟨_, pt_not p1, fun σ H P ι F δ s Q R E post => ?_⟩
  show t1 σ H _
  refine den_then d1 R E post fun x y H1 ι1 F1 s1 g1 R1 E1 r1 post1 => ?_
  cases r1
  exact post1.here R1 rfl
end
def dAndV (f g : DE) : DE := fun δ s => (f δ s).bind fun x s1 => match x with
  | .bl true => g δ s1
  | .bl false => .ok (.bl false) s1
  | _ => .stuck
def dOrV (f g : DE) : DE := fun δ s => (f δ s).bind fun x s1 => match x with
  | .bl true => .ok (.bl true) s1
  | .bl false => g δ s1
  | _ => .stuck
def dNotV (f : DE) : DE := fun δ s => (f δ s).bind fun x s1 => match x with
  | .bl b => .ok (.bl (!b)) s1
  | _ => .stuck
def dIfE (c : DT) (f g : DE) : DE := fun δ s => (c δ s).bind fun b s1 => match b with
  | true => f δ s1
  | false => g δ s1
section
variable {a b c : Expr} {rest : List Expr} {pos : Pos} {fa fb : DE} {fc : DT}
theorem d_one {op} (ha : PDe T X a fa) : PDe T X (.BoolOp op [a] pos) fa := fun pn xe W tk => by
  obtain ⟨t1, p1, d1⟩ := ha pn xe W tk
  exact ⟨_, pe_one p1, d1⟩
theorem d_and (ha : PDe T X a fa) (hb : PDe T X (.BoolOp .And (b :: rest) pos) fb) : PDe T X (.BoolOp .And (a :: b :: rest) pos) (dAndV fa fb) := fun pn xe W tk => by
  obtain ⟨t1, p1, d1⟩ := ha pn xe W tk
  obtain ⟨t2, p2, d2⟩ := hb pn xe W tk
  refine ⟨_, pe_and p1 p2, fun σ H P ι F δ s Q R E post => ?_⟩
  show t1 σ H _
  refine den_then d1 R E post fun x y H1 ι1 F1 s1 g1 R1 E1 r1 post1 => ?_
  cases x with
  | bl b =>
    unfold Rp at r1
    refine ⟨b, r1, ?_⟩
    cases b with
    | true =>
      rw [if_pos rfl]
      exact d2 _ _ _ _ _ _ _ _ R1 E1 post1
    | false =>
      rw [if_neg Bool.false_ne_true]
      exact post1.here R1 (by unfold Rp; rfl)
  | _ => exact post1.elim
theorem d_or (ha : PDe T X a fa) (hb : PDe T X (.BoolOp .Or (b :: rest) pos) fb) : PDe T X (.BoolOp .Or (a :: b :: rest) pos) (dOrV fa fb) := fun pn xe W tk => by
  obtain ⟨t1, p1, d1⟩ := ha pn xe W tk
  obtain ⟨t2, p2, d2⟩ := hb pn xe W tk
  refine ⟨_, pe_or p1 p2, fun σ H P ι F δ s Q R E post => ?_⟩
  show t1 σ H _
  refine den_then d1 R E post fun x y H1 ι1 F1 s1 g1 R1 E1 r1 post1 => ?_
  cases x with
  | bl b =>
    unfold Rp at r1
    refine ⟨b, r1, ?_⟩
    cases b with
    | true =>
      rw [if_pos rfl]
      exact post1.here R1 (by unfold Rp; rfl)
    | false =>
      rw [if_neg Bool.false_ne_true]
      exact d2 _ _ _ _ _ _ _ _ R1 E1 post1
  | _ => exact post1.elim
theorem d_not (ha : PDe T X a fa) : PDe T X (.UnaryOp .Not a pos) (dNotV fa) := fun pn xe W tk => by
  obtain ⟨t1, p1, d1⟩ := ha pn xe W tk
  refine ⟨_, pe_not p1, fun σ H P ι F δ s Q R E post => ?_⟩
  show t1 σ H _
  refine den_then d1 R E post fun x y H1 ι1 F1 s1 g1 R1 E1 r1 post1 => ?_
  cases x with
  | bl b =>
    unfold Rp at r1
    exact ⟨b, r1, post1.here R1 (by unfold Rp; rfl)⟩
  | _ => exact post1.elim
theorem d_ifE (hc : PDt T X c fc) (ha : PDe T X a fa) (hb : PDe T X b fb) : PDe T X (.IfExp c a b pos) (dIfE fc fa fb) := fun pn xe W tk => by
  obtain ⟨t0, p0, d0⟩ := hc pn xe W tk
  obtain ⟨t1, p1, d1⟩ := ha pn xe W tk
  obtain ⟨t2, p2, d2⟩ := hb pn xe W tk
  refine ⟨_, pe_ifExp p0 p1 p2, fun σ H P ι F δ s Q R E post => ?_⟩
  show t0 σ H _
  refine den_then d0 R E post fun x y H1 ι1 F1 s1 g1 R1 E1 r1 post1 => ?_
  cases r1
  cases x with
  | true =>
    rw [if_pos rfl]
    exact d1 _ _ _ _ _ _ _ _ R1 E1 post1
  | false =>
    rw [if_neg Bool.false_ne_true]
    exact d2 _ _ _ _ _ _ _ _ R1 E1 post1
end
end
end Mp
/-! # MpC -/
namespace Mp
open PySem PySem.Spec L2

def lim : Nat := 1000000
theorem lim_le {n : Nat} (h : n ≤ lim) : n ≤ sizeLine := Nat.le_trans h (by rw [sizeLine_eq]; decide)
theorem lim_lt {n : Nat} (h : n ≤ lim) : n < sizeLine := Nat.lt_of_le_of_lt h (by rw [sizeLine_eq]; decide)
/-! ## what stands for lists and tuples -/
def lsOf (s : Sto) : D → Option (List D)
  | .lst xs => some xs
  | .loc n => match s[n]? with
    | some (.lst xs) => some xs
    | _ => none
  | _ => none
/-- a list that is only read -/
def lqOf (s : Sto) : D → Option (List D)
  | .scr ns => some (ns.map D.int)
  | d => lsOf s d
section
variable {T : Tb} {P : Hp} {ι : List Addr} {F : Hp} {s : Sto} {H : Hp}
theorem ls_of (R : RelH T P ι F s H) {d : D} {v : V} {xs : List D} (r : Rp T F ι d v) (e : lsOf s d = some xs) : ∃ a vs, v = .ref a ∧ H a = some (.lst vs) ∧ Rps T F ι xs vs := by
  unfold lsOf at e
  cases d with
  | lst ys =>
    cases e
    unfold Rp at r
    obtain ⟨a, vs, h1, h2, h3⟩ := r
    exact ⟨a, vs, h1, R.sub _ _ h2, h3⟩
  | loc n =>
    unfold Rp at r
    obtain ⟨a, h1, h2⟩ := r
    dsimp only at e
    cases q : s[n]? with
    | none => rw [q] at e; cases e
    | some c =>
      rw [q] at e
      cases c with
      | lst ys =>
        cases e
        obtain ⟨_, vs, h3, h4⟩ := R.cell n _ a q h1
        exact ⟨a, vs, h2, h3, h4⟩
      | _ => cases e
  | _ => cases e
theorem rps_ints : ∀ (ns : List Int), Rps T F ι (ns.map D.int) (ns.map V.int)
  | [] => .nil
  | n :: r => .cons (by unfold Rp; rfl) (rps_ints r)
theorem lq_of (R : RelH T P ι F s H) {d : D} {v : V} {xs : List D} (r : Rp T F ι d v) (e : lqOf s d = some xs) : ∃ a vs, v = .ref a ∧ SqL T.K H a vs ∧ Rps T F ι xs vs := by
  cases d with
  | scr ns =>
    unfold lqOf at e
    cases e
    unfold Rp at r
    obtain ⟨a, h1, h2⟩ := r
    exact ⟨a, _, h1, sql_mono R.sub h2, rps_ints ns⟩
  | _ =>
    obtain ⟨a, vs, h1, h2, h3⟩ := ls_of R r (show lsOf s _ = some xs from e)
    exact ⟨a, vs, h1, SqL.of h2, h3⟩
theorem tp_of (R : RelH T P ι F s H) {xs : List D} {v : V} (r : Rp T F ι (.tup xs) v) : ∃ a vs, v = .ref a ∧ H a = some (.tup vs) ∧ F a = some (.tup vs) ∧ Rps T F ι xs vs := by
  unfold Rp at r
  obtain ⟨a, vs, h1, h2, h3⟩ := r
  exact ⟨a, vs, h1, R.sub _ _ h2, h2, h3⟩
end

/-! ## arithmetic, sums of texts, lists, tuples -/
def oAdd : DOp
  | .int a, .int b, s => .ok (.int (a + b)) s
  | .str a, .str b, s => if a.length + b.length ≤ lim then .ok (.str (a ++ b)) s else .stuck
  | .tup a, .tup b, s => if a ≠ [] ∧ a.length + b.length ≤ lim then .ok (.tup (a ++ b)) s else .stuck
  | x, y, s => match lsOf s x, lsOf s y with
    | some a, some b => if a.length + b.length ≤ lim then .ok (.lst (a ++ b)) s else .stuck
    | _, _ => .stuck
def orR (r r' : R2) : R2 := fun x y H Q => r x y H Q ∨ r' x y H Q
theorem OpR.or {X : Cx} {f : Value → Value → Sem Value} {r r' : R2} (h : OpR X f r) (h' : OpR X f r') : OpR X f (orR r r') := by
  intro pins s σ H x y v u Q I rx ry q
  rcases q with q | q
  · exact h pins s σ H x y v u Q I rx ry q
  · exact h' pins s σ H x y v u Q I rx ry q
def rAddS : R2 := fun x y H Q => ∃ i j, x = .str i ∧ y = .str j ∧ i.length + j.length ≤ sizeLine ∧ Q (.str (i ++ j)) H
def rAddA (K : PySem.W.Frag) : R2 := orR (rI0 fun i j => .int (i + j)) (orR rAddS (orR rCat (rCatT K)))
theorem op_addA {X : Cx} : OpR X (binaryOp .Add) (rAddA X.K) := OpR.or op_add (OpR.or op_add_str (OpR.or op_cat op_catT))
section
variable {T : Tb}
theorem do_add : DenOp T (rAddA T.K) oAdd := by
  intro x y dx dy H P ι F s Q E R rx ry post
  have gen : ∀ a b, lsOf s dx = some a → lsOf s dy = some b → Post T P (Rp T) Q E F ι (if a.length + b.length ≤ lim then .ok (.lst (a ++ b)) s else .stuck) → rAddA T.K x y H Q := by
    intro a b h1 h2 post
    obtain ⟨p, vs, rfl, e1, e2⟩ := ls_of R rx h1
    obtain ⟨q, us, rfl, e3, e4⟩ := ls_of R ry h2
    split at post
    · rename_i hl
      refine .inr (.inr (.inl ⟨p, q, vs, us, rfl, rfl, e1, e3, by rw [← e2.len, ← e4.len]; exact lim_le hl, fun l hl => ?_⟩))
      refine post.new R hl fun g => ?_
      unfold Rp
      exact ⟨l, _, rfl, upd_same, (e2.app e4).mono g⟩
    · exact post.elim
  unfold oAdd at post
  split at post
  · unfold Rp at rx ry
    exact .inl ⟨_, _, rx, ry, post.here R (by unfold Rp; rfl)⟩
  · unfold Rp at rx ry
    rename_i a b _
    split at post
    · rename_i hl
      refine .inr (.inl ⟨_, _, rx, ry, by rw [S_len, S_len]; exact lim_le hl, ?_⟩)
      rw [S_cat]
      exact post.here R (by unfold Rp; rfl)
    · exact post.elim
  · rename_i a b _
    split at post
    · rename_i hl
      obtain ⟨p, vs, rfl, e1, _, e2⟩ := tp_of R rx
      obtain ⟨q, us, rfl, e3, _, e4⟩ := tp_of R ry
      refine .inr (.inr (.inr ⟨p, q, vs, us, rfl, rfl, SqT.of e1, SqT.of e3, ?_, by rw [← e2.len, ← e4.len]; exact lim_le hl.2, fun z => ?_, fun _ l hl => ?_⟩))
      · intro z
        have := e2.len
        rw [z] at this
        exact hl.1 (List.length_eq_zero_iff.mp this)
      · have := e4.len
        rw [z] at this
        rw [List.length_eq_zero_iff.mp this] at post
        refine post.here R ?_
        rw [List.append_nil]
        exact rx
      · refine post.new R hl fun g => ?_
        unfold Rp
        exact ⟨l, _, rfl, upd_same, (e2.app e4).mono g⟩
    · exact post.elim
  · split at post
    · rename_i a b h1 h2
      exact gen a b h1 h2 post
    · exact post.elim
/-- whole numbers in, under a condition -/
def oInt (c : Int → Int → Bool) (g : Int → Int → Int) : DOp
  | .int a, .int b, s => if c a b = true then .ok (.int (g a b)) s else .stuck
  | _, _, _ => .stuck
theorem do_int {c : Int → Int → Bool} {C : Int → Int → Prop} {g : Int → Int → Int} (h : ∀ a b, c a b = true → C a b) : DenOp T (rI C fun i j => .int (g i j)) (oInt c g) := by
  intro x y dx dy H P ι F s Q E R rx ry post
  unfold oInt at post
  split at post
  · split at post
    · rename_i hc
      unfold Rp at rx ry
      exact ⟨_, _, rx, ry, h _ _ hc, post.here R (by unfold Rp; rfl)⟩
    · exact post.elim
  · exact post.elim
theorem do_int0 {g : Int → Int → Int} : DenOp T (rI0 fun i j => .int (g i j)) (oInt (fun _ _ => true) g) := by
  intro x y dx dy H P ι F s Q E R rx ry post
  unfold oInt at post
  split at post
  · rw [if_pos rfl] at post
    unfold Rp at rx ry
    exact ⟨_, _, rx, ry, post.here R (by unfold Rp; rfl)⟩
  · exact post.elim
abbrev oSub : DOp := oInt (fun _ _ => true) (· - ·)
def cMul (i j : Int) : Bool := (decide (-(2 ^ 64) < i) && decide (i < 2 ^ 64)) || (decide (-(2 ^ 64) < j) && decide (j < 2 ^ 64))
abbrev oMul : DOp := oInt cMul (· * ·)
abbrev oDiv : DOp := oInt (fun _ j => decide (0 < j) && decide (j < 1073741824)) (· / ·)
abbrev oMod : DOp := oInt (fun _ j => decide (0 < j)) (· % ·)
def cPow (i j : Int) : Bool := decide (0 ≤ j) && (decide (j ≤ 1000000) && decide (i.natAbs < 2 ^ 64))
abbrev oPow : DOp := oInt cPow (fun i j => i ^ j.toNat)
abbrev oShl : DOp := oInt cPow (fun i j => i * 2 ^ j.toNat)
abbrev oShr : DOp := oInt (fun _ j => decide (0 ≤ j)) (fun i j => i / 2 ^ j.toNat)
abbrev oAnd : DOp := oInt (fun _ _ => true) Builtin.bitAnd
abbrev oOr : DOp := oInt (fun _ _ => true) Builtin.bitOr
theorem do_sub : DenOp T (rI0 fun i j => .int (i - j)) oSub := do_int0
theorem do_mul : DenOp T (rI CMul fun i j => .int (i * j)) oMul := do_int fun a b h => by
  unfold cMul at h
  unfold CMul
  simp only [Bool.or_eq_true, Bool.and_eq_true, decide_eq_true_eq] at h
  exact h
theorem do_div : DenOp T (rI CDiv fun i j => .int (i / j)) oDiv := do_int fun a b h => by
  simp only [Bool.and_eq_true, decide_eq_true_eq] at h
  exact h
theorem do_mod : DenOp T (rI (fun _ j => 0 < j) fun i j => .int (i % j)) oMod := do_int fun a b h => of_decide_eq_true h
theorem cPow_ok {a b : Int} (h : cPow a b = true) : CPow a b := by
  unfold cPow at h
  simp only [Bool.and_eq_true, decide_eq_true_eq] at h
  exact h
theorem do_pow : DenOp T (rI CPow fun i j => .int (i ^ j.toNat)) oPow := do_int fun a b h => cPow_ok h
theorem do_shl : DenOp T (rI CPow fun i j => .int (i * 2 ^ j.toNat)) oShl := do_int fun a b h => cPow_ok h
theorem do_shr : DenOp T (rI (fun _ j => 0 ≤ j) fun i j => .int (i / 2 ^ j.toNat)) oShr := do_int fun a b h => of_decide_eq_true h
theorem do_and : DenOp T (rI0 fun i j => .int (Builtin.bitAnd i j)) oAnd := do_int0
theorem do_or : DenOp T (rI0 fun i j => .int (Builtin.bitOr i j)) oOr := do_int0
/-! ## comparisons -/
def oCmp (g : Int → Int → Bool) : DOp
  | .int a, .int b, s => .ok (.bl (g a b)) s
  | _, _, _ => .stuck
theorem do_cmp {g : Int → Int → Bool} : DenOp T (rI0 fun i j => .bl (g i j)) (oCmp g) := by
  intro x y dx dy H P ι F s Q E R rx ry post
  unfold oCmp at post
  split at post
  · unfold Rp at rx ry
    exact ⟨_, _, rx, ry, post.here R (by unfold Rp; rfl)⟩
  · exact post.elim
abbrev oLt : DOp := oCmp fun i j => decide (i < j)
abbrev oLe : DOp := oCmp fun i j => decide (i ≤ j)
abbrev oGt : DOp := oCmp fun i j => decide (j < i)
abbrev oGe : DOp := oCmp fun i j => decide (j ≤ i)
mutual
def toP : D → Option PyData
  | .non => some .none
  | .bl b => some (.bool b)
  | .int i => some (.int i)
  | .str x => some (.str (S x))
  | .lst xs => (toPs xs).map .list
  | .tup xs => (toPs xs).map .tuple
  | .scr ns => some (.list (ns.map .int))
  | _ => none
def toPs : List D → Option (List PyData)
  | [] => some []
  | x :: xs => match toP x, toPs xs with
    | some p, some ps => some (p :: ps)
    | _, _ => none
end
theorem dp_ints {K : PySem.W.Frag} {H : Hp} : ∀ (ns : List Int), DpAll K H (ns.map V.int) (ns.map PyData.int)
  | [] => .nil
  | n :: r => .cons (.int n) (dp_ints r)
mutual
theorem dp_of {P : Hp} {ι : List Addr} {F : Hp} {s : Sto} {H : Hp} (R : RelH T P ι F s H) : ∀ {d : D} {v : V} {p : PyData}, Rp T F ι d v → toP d = some p → Dp T.K H v p
  | .non, v, p, r, e => by unfold Rp at r; subst r; cases e; exact .non
  | .bl _, v, p, r, e => by unfold Rp at r; subst r; cases e; exact .bl _
  | .int _, v, p, r, e => by unfold Rp at r; subst r; cases e; exact .int _
  | .str _, v, p, r, e => by unfold Rp at r; subst r; cases e; exact .str _
  | .scr ns, v, p, r, e => by
    unfold Rp at r
    obtain ⟨a, rfl, q⟩ := r
    cases e
    exact .lst (sql_mono R.sub q) (dp_ints ns)
  | .lst xs, v, p, r, e => by
    unfold Rp at r
    obtain ⟨a, vs, rfl, q, r⟩ := r
    unfold toP at e
    cases h : toPs xs with
    | none => rw [h] at e; cases e
    | some ps => rw [h] at e; cases e; exact .lst (SqL.of (R.sub _ _ q)) (dps_of R r h)
  | .tup xs, v, p, r, e => by
    unfold Rp at r
    obtain ⟨a, vs, rfl, q, r⟩ := r
    unfold toP at e
    cases h : toPs xs with
    | none => rw [h] at e; cases e
    | some ps => rw [h] at e; cases e; exact .tup (SqT.of (R.sub _ _ q)) (dps_of R r h)
  | .dct _ _, v, p, r, e => by cases e
  | .dcL _ _, v, p, r, e => by cases e
  | .dcT _ _, v, p, r, e => by cases e
  | .obj _ _ _, v, p, r, e => by cases e
  | .loc _, v, p, r, e => by cases e
  | .exc _, v, p, r, e => by cases e
  | .cls _, v, p, r, e => by cases e
  | .ty _, v, p, r, e => by cases e
  | .fn _ _ _ _ _, v, p, r, e => by cases e
theorem dps_of {P : Hp} {ι : List Addr} {F : Hp} {s : Sto} {H : Hp} (R : RelH T P ι F s H) : ∀ {ds : List D} {vs : List V} {ps : List PyData}, Rps T F ι ds vs → toPs ds = some ps → DpAll T.K H vs ps
  | [], vs, ps, r, e => by unfold Rps at r; subst r; cases e; exact .nil
  | x :: xs, vs, ps, r, e => by
    unfold Rps at r
    obtain ⟨v, us, rfl, r1, r2⟩ := r
    unfold toPs at e
    cases h1 : toP x with
    | none => rw [h1] at e; cases e
    | some p =>
      cases h2 : toPs xs with
      | none => rw [h1, h2] at e; cases e
      | some qs => rw [h1, h2] at e; cases e; exact .cons (dp_of R r1 h1) (dps_of R r2 h2)
end
def toPc (s : Sto) (d : D) : Option PyData := match lsOf s d with
  | some xs => (toPs xs).map .list
  | none => toP d
theorem dpc_of {P : Hp} {ι : List Addr} {F : Hp} {s : Sto} {H : Hp} (R : RelH T P ι F s H) {d : D} {v : V} {p : PyData} (r : Rp T F ι d v) (e : toPc s d = some p) : Dp T.K H v p := by
  unfold toPc at e
  cases h : lsOf s d with
  | none => rw [h] at e; exact dp_of R r e
  | some xs =>
    rw [h] at e
    dsimp only at e
    obtain ⟨a, vs, rfl, q, r⟩ := ls_of R r h
    cases h2 : toPs xs with
    | none => rw [h2] at e; cases e
    | some ps => rw [h2] at e; cases e; exact .lst (SqL.of q) (dps_of R r h2)
/-- ==, and its contrary -/
def scD : D → D → Option Bool
  | .int a, .int b => some (a == b)
  | .str a, .str b => some (a == b)
  | .bl a, .bl b => some (a == b)
  | .non, .non => some true
  | .non, .int _ | .non, .str _ | .non, .bl _ | .int _, .non | .str _, .non | .bl _, .non => some false
  | .int _, .str _ | .str _, .int _ | .bl _, .str _ | .str _, .bl _ => some false
  | _, _ => none
def oEqG (neg : Bool) : DOp := fun x y s => match scD x y with
  | some b => .ok (.bl (neg != b)) s
  | none => match toPc s x, toPc s y with
    | some p, some q => if (SeqAt.shaped p && SeqAt.shaped q) = true then .ok (.bl (neg != PyData.eqv p q)) s else .stuck
    | _, _ => .stuck
abbrev oEq : DOp := oEqG false
abbrev oNe : DOp := oEqG true
def rEqA (K : PySem.W.Frag) : R2 := orR rEq (rEqD K)
def rNeA (K : PySem.W.Frag) : R2 := orR rNe (rNeD K)
theorem op_eqA {X : Cx} (hu : X.A.units + 64 < cLine) : OpR X (compareOp .Eq) (rEqA X.K) := OpR.or op_eq (op_eqD hu)
theorem op_neA {X : Cx} (hu : X.A.units + 64 < cLine) : OpR X (compareOp .NotEq) (rNeA X.K) := OpR.or op_ne (op_neD hu)
theorem b1 (b : Bool) : (false != b) = b := by cases b <;> rfl
theorem b2 (b : Bool) : (true != b) = !b := by cases b <;> rfl
theorem beq_dec {α : Type} [BEq α] [LawfulBEq α] [DecidableEq α] (a b : α) : (a == b) = decide (a = b) := by
  by_cases h : a = b
  · rw [decide_eq_true h]; exact beq_iff_eq.mpr h
  · rw [decide_eq_false h]; exact beq_eq_false_iff_ne.mpr h
theorem dec_i {a b : Int} : decide (V.int a = V.int b) = (a == b) := by
  rw [beq_dec]; exact decide_eq_decide.mpr ⟨fun h => by injection h, fun h => by rw [h]⟩
theorem dec_s {a b : List Nat} : decide (V.str (S a) = V.str (S b)) = (a == b) := by
  rw [beq_dec]; exact decide_eq_decide.mpr ⟨fun h => by injection h with h; exact S_inj h, fun h => by rw [h]⟩
theorem dec_b {a b : Bool} : decide (V.bl a = V.bl b) = (a == b) := by cases a <;> cases b <;> rfl
theorem scD_ok {F : Hp} {ι : List Addr} {d e : D} {v u : V} {b : Bool} (r : Rp T F ι d v) (q : Rp T F ι e u) (h : scD d e = some b) : scal v u = true ∧ decide (v = u) = b := by
  unfold scD at h
  split at h
  all_goals first | cases h | skip
  all_goals
    unfold Rp at r q
    subst r q
    first | exact ⟨rfl, dec_i⟩ | exact ⟨rfl, dec_s⟩ | exact ⟨rfl, dec_b⟩ | exact ⟨rfl, rfl⟩
theorem do_eq : DenOp T (rEqA T.K) oEq := by
  intro x y dx dy H P ι F s Q E R rx ry post
  unfold oEq oEqG at post
  split at post
  · rename_i b hb
    obtain ⟨h1, h2⟩ := scD_ok rx ry hb
    exact .inl ⟨h1, post.here R (by unfold Rp; rw [b1, h2])⟩
  · split at post
    · rename_i p q h1 h2
      split at post
      · rename_i hs
        simp only [Bool.and_eq_true] at hs
        exact .inr ⟨p, q, dpc_of R rx h1, dpc_of R ry h2, hs.1, hs.2, post.here R (by unfold Rp; rw [b1])⟩
      · exact post.elim
    · exact post.elim
theorem do_ne : DenOp T (rNeA T.K) oNe := by
  intro x y dx dy H P ι F s Q E R rx ry post
  unfold oNe oEqG at post
  split at post
  · rename_i b hb
    obtain ⟨h1, h2⟩ := scD_ok rx ry hb
    exact .inl ⟨h1, post.here R (by unfold Rp; rw [b2, h2])⟩
  · split at post
    · rename_i p q h1 h2
      split at post
      · rename_i hs
        simp only [Bool.and_eq_true] at hs
        exact .inr ⟨p, q, dpc_of R rx h1, dpc_of R ry h2, hs.1, hs.2, post.here R (by unfold Rp; rw [b2])⟩
      · exact post.elim
    · exact post.elim
/-- is None, is not None -/
def isNon : D → Bool
  | .non => true
  | _ => false
theorem isNon_ok {F : Hp} {ι : List Addr} {d : D} {v : V} (r : Rp T F ι d v) : decide (v = .non) = isNon d := by
  cases d with
  | non => unfold Rp at r; subst r; rfl
  | tup _ => unfold Rp at r; obtain ⟨_, _, rfl, _⟩ := r; rfl
  | lst _ => unfold Rp at r; obtain ⟨_, _, rfl, _⟩ := r; rfl
  | scr _ => unfold Rp at r; obtain ⟨_, rfl, _⟩ := r; rfl
  | dct _ _ => unfold Rp at r; obtain ⟨_, _, rfl, _⟩ := r; rfl
  | dcL _ _ => unfold Rp at r; obtain ⟨_, _, _, rfl, _⟩ := r; rfl
  | dcT _ _ => unfold Rp at r; obtain ⟨_, _, _, rfl, _⟩ := r; rfl
  | obj _ _ _ => unfold Rp at r; obtain ⟨_, _, _, rfl, _⟩ := r; rfl
  | loc _ => unfold Rp at r; obtain ⟨_, _, rfl⟩ := r; rfl
  | exc _ => unfold Rp at r; obtain ⟨_, rfl, _⟩ := r; rfl
  | fn _ _ _ _ _ => unfold Rp at r; obtain ⟨rfl, _⟩ := r; rfl
  | _ => unfold Rp at r; subst r; rfl
def oIs (neg : Bool) : DOp
  | x, .non, s => .ok (.bl (neg != isNon x)) s
  | _, _, _ => .stuck
def rIsN : R2 := fun x y H Q => y = .non ∧ Q (.bl (decide (x = .non))) H
def rNotN : R2 := fun x y H Q => y = .non ∧ Q (.bl (!decide (x = .non))) H
theorem do_is : DenOp T rIsN (oIs false) := by
  intro x y dx dy H P ι F s Q E R rx ry post
  unfold oIs at post
  split at post
  · refine ⟨by unfold Rp at ry; exact ry, post.here R ?_⟩
    unfold Rp; rw [b1, isNon_ok rx]
  · exact post.elim
theorem do_isnot : DenOp T rNotN (oIs true) := by
  intro x y dx dy H P ι F s Q E R rx ry post
  unfold oIs at post
  split at post
  · refine ⟨by unfold Rp at ry; exact ry, post.here R ?_⟩
    unfold Rp; rw [b2, isNon_ok rx]
  · exact post.elim
/-! ## in a list or tuple of flat things; in a text -/
def flatD : D → Bool
  | .non | .bl _ | .int _ | .str _ => true
  | _ => false
def eqF : D → D → Bool
  | .non, .non => true
  | .bl a, .bl b => a == b
  | .bl a, .int b => (if a then 1 else 0) == b
  | .int a, .bl b => a == (if b then 1 else 0)
  | .int a, .int b => a == b
  | .str a, .str b => a == b
  | _, _ => false
def tpOf : D → Option (List D)
  | .tup xs => some xs
  | _ => none
/-- x in xs -/
def oIn (neg : Bool) : DOp := fun x y s => match (lqOf s y).or (tpOf y) with
  | some xs => if (flatD x && xs.all flatD) = true then .ok (.bl (neg != xs.any fun y => eqF y x)) s else .stuck
  | none => .stuck
theorem flat_ok {F : Hp} {ι : List Addr} {d : D} {v : V} (r : Rp T F ι d v) (h : flatD d = true) : flatV v = true := by
  cases d <;> first | (unfold Rp at r; subst r; rfl) | cases h
theorem eqF_ok {F : Hp} {ι : List Addr} {d e : D} {v u : V} (r : Rp T F ι d v) (q : Rp T F ι e u) (h : flatD d = true) (k : flatD e = true) : eqV v u = eqF d e := by
  cases d <;> first | cases h | skip
  all_goals
    cases e <;> first | cases k | skip
    all_goals
      unfold Rp at r q
      subst r q
      first
        | rfl
        | (rename_i p q
           show (S p == S q) = (p == q)
           rw [beq_dec, beq_dec]
           exact decide_eq_decide.mpr ⟨fun h => S_inj h, fun h => by rw [h]⟩)
theorem in_ok {F : Hp} {ι : List Addr} {x : D} {v : V} (r : Rp T F ι x v) (h : flatD x = true) : ∀ {ds : List D} {vs : List V}, Rps T F ι ds vs → ds.all flatD = true → vs.all flatV = true ∧ (vs.any fun y => eqV y v) = ds.any fun y => eqF y x
  | [], vs, q, _ => by unfold Rps at q; subst q; exact ⟨rfl, rfl⟩
  | d :: ds, vs, q, k => by
    unfold Rps at q
    obtain ⟨u, us, rfl, q1, q2⟩ := q
    rw [List.all_cons, Bool.and_eq_true] at k
    obtain ⟨i1, i2⟩ := in_ok r h q2 k.2
    refine ⟨by rw [List.all_cons, flat_ok q1 k.1, i1]; rfl, ?_⟩
    rw [List.any_cons, List.any_cons, eqF_ok q1 r k.1 h, i2]
theorem lqtp_of {P : Hp} {ι : List Addr} {F : Hp} {s : Sto} {H : Hp} (R : RelH T P ι F s H) {d : D} {v : V} {xs : List D} (r : Rp T F ι d v) (e : (lqOf s d).or (tpOf d) = some xs) : ∃ a vs, v = .ref a ∧ (SqL T.K H a vs ∨ SqT T.K H a vs) ∧ Rps T F ι xs vs := by
  cases h : lqOf s d with
  | some ys =>
    rw [h] at e
    cases e
    obtain ⟨a, vs, h1, h2, h3⟩ := lq_of R r h
    exact ⟨a, vs, h1, .inl h2, h3⟩
  | none =>
    rw [h] at e
    cases d with
    | tup ys =>
      cases e
      obtain ⟨a, vs, h1, h2, _, h3⟩ := tp_of R r
      exact ⟨a, vs, h1, .inr (SqT.of h2), h3⟩
    | _ => cases e
theorem do_in {neg : Bool} : DenOp T (rIn T.K neg) (oIn neg) := by
  intro x y dx dy H P ι F s Q E R rx ry post
  unfold oIn at post
  split at post
  · rename_i xs h
    obtain ⟨a, vs, rfl, h2, h3⟩ := lqtp_of R ry h
    split at post
    · rename_i hf
      simp only [Bool.and_eq_true] at hf
      obtain ⟨i1, i2⟩ := in_ok rx hf.1 h3 hf.2
      refine ⟨a, vs, rfl, h2, flat_ok rx hf.1, i1, post.here R ?_⟩
      unfold Rp inV
      rw [i2]
      cases neg <;> simp
    · exact post.elim
  · exact post.elim
/-- one sign in a text -/
def oInS (neg : Bool) : DOp
  | .str [c], .str z, s => .ok (.bl (neg != decide (c ∈ z))) s
  | _, _, _ => .stuck
def rInS : R2 := fun x y H Q => ∃ (c : Nat) (z : Str), x = .str ⟨#[c]⟩ ∧ y = .str z ∧ Q (.bl (decide (c ∈ z.cps.toList))) H
def rNotInS : R2 := fun x y H Q => ∃ (c : Nat) (z : Str), x = .str ⟨#[c]⟩ ∧ y = .str z ∧ Q (.bl (!decide (c ∈ z.cps.toList))) H
theorem do_inS : DenOp T rInS (oInS false) := by
  intro x y dx dy H P ι F s Q E R rx ry post
  unfold oInS at post
  split at post
  · unfold Rp at rx ry
    exact ⟨_, _, rx, ry, post.here R (by unfold Rp; rw [b1]; exact congrArg V.bl (decide_eq_decide.mpr (by simp [S])))⟩
  · exact post.elim
theorem do_notInS : DenOp T rNotInS (oInS true) := by
  intro x y dx dy H P ι F s Q E R rx ry post
  unfold oInS at post
  split at post
  · unfold Rp at rx ry
    exact ⟨_, _, rx, ry, post.here R (by unfold Rp; rw [b2]; exact congrArg V.bl (congrArg Bool.not (decide_eq_decide.mpr (by simp [S]))))⟩
  · exact post.elim
/-! ## subscripts -/
theorem at_ok {F : Hp} {ι : List Addr} {ds : List D} {vs : List V} {i : Int} {d : D} (r : Rps T F ι ds vs) (h : atI ds i = some d) : ∃ v, atI vs i = some v ∧ Rp T F ι d v := by
  unfold atI at h ⊢
  rw [← r.len]
  cases e : ixN ds.length i with
  | none => rw [e] at h; cases h
  | some j =>
    rw [e] at h
    exact r.get h
def oIx : DOp
  | .str z, .int i, s => if z.length ≤ lim then match atI z i with
    | some c => .ok (.str [c]) s
    | none => .stuck
    else .stuck
  | x, .int i, s => match (lqOf s x).or (tpOf x) with
    | some xs => match atI xs i with
      | some d => .ok d s
      | none => .stuck
    | none => .stuck
  | _, _, _ => .stuck
theorem do_ix : DenOp T (rIx T.K) oIx := by
  intro x y dx dy H P ι F s Q E R rx ry post
  unfold oIx at post
  split at post
  · split at post
    · rename_i hl
      split at post
      · rename_i c hc
        unfold Rp at rx ry
        refine .inr (.inr ⟨S _, _, c, rx, ry, by rw [S_len]; exact lim_le hl, ?_, post.here R (by unfold Rp; rfl)⟩)
        simpa [S] using hc
      · exact post.elim
    · exact post.elim
  · split at post
    · rename_i xs h
      split at post
      · rename_i d hd
        unfold Rp at ry
        obtain ⟨a, vs, rfl, h2, h3⟩ := lqtp_of R rx h
        obtain ⟨v, h4, h5⟩ := at_ok h3 hd
        rcases h2 with h2 | h2
        · exact .inl ⟨a, vs, _, v, rfl, ry, h2, h4, post.here R h5⟩
        · exact .inr (.inl ⟨a, vs, _, v, rfl, ry, h2, h4, post.here R h5⟩)
      · exact post.elim
    · exact post.elim
  · exact post.elim
theorem d_ix {X : Cx} {a b : Expr} {pos : Pos} {fa fb : DE} (ha : PDe T X a fa) (hb : PDe T X b fb) (hs : PlainIx b := by exact fun _ _ => rfl) (hK : X.K = T.K := by rfl) : PDe T X (.Subscript a b pos) (dOp oIx fa fb) := fun pn xe W tk => by
  obtain ⟨t1, p1, d1⟩ := ha pn xe W tk
  obtain ⟨t2, p2, d2⟩ := hb pn xe W tk
  exact ⟨_, pe_ix (X := X.tr pn xe) ix_seq p1 p2 hs, den_op (by show DenOp T (rIx X.K) oIx; rw [hK]; exact do_ix) d1 d2⟩
/-! ## slices -/
def cutL {α : Type} (xs : List α) (lo hi : Option Int) : List α := (xs.drop (HT.sIx xs.length 0 lo)).take (HT.sIx xs.length xs.length hi - HT.sIx xs.length 0 lo)
theorem cut_ok {F : Hp} {ι : List Addr} {ds : List D} {vs : List V} (r : Rps T F ι ds vs) (lo hi : Option Int) : Rps T F ι (cutL ds lo hi) (cutV vs lo hi) := by
  unfold cutL cutV
  rw [← r.len]
  exact (r.drop _).take _
abbrev DOI := Env → Sto → Res (Option Int)
def pNone : DOI := fun _ s => .ok none s
def pSome (f : DE) : DOI := fun δ s => (f δ s).bind fun x s1 => match x with
  | .int i => .ok (some i) s1
  | _ => .stuck
def PDo (T : Tb) (X : Cx) (e : Option Expr) (f : DOI) : Prop := ∀ pn xe W, Takes (X.tr pn xe) W → ∃ t, PO (X.tr pn xe) e t ∧ DenG T eqR W t f
theorem o_none {X : Cx} : PDo T X none pNone := fun pn xe W _ => ⟨_, po_none, fun _ _ _ _ _ _ _ _ R _ post => post.here R rfl⟩
theorem o_some {X : Cx} {e : Expr} {f : DE} (h : PDe T X e f) : PDo T X (some e) (pSome f) := fun pn xe W tk => by
  obtain ⟨t1, p1, d1⟩ := h pn xe W tk
  refine ⟨_, po_some p1, fun σ H P ι F δ s Q R E post => ?_⟩
  show t1 σ H _
  refine den_then d1 R E post fun x y H1 ι1 F1 s1 g1 R1 E1 r1 post1 => ?_
  cases x with
  | int i =>
    unfold Rp at r1
    exact ⟨i, r1, post1.here R1 rfl⟩
  | _ => exact post1.elim
def oSl (x : D) (lo hi : Option Int) (s : Sto) : Res D := match x with
  | .str z => if z.length ≤ lim then .ok (.str (cutL z lo hi)) s else .stuck
  | .tup xs => if HT.sIx xs.length 0 lo = 0 ∧ HT.sIx xs.length xs.length hi = xs.length then .stuck else .ok (.tup (cutL xs lo hi)) s
  | x => match lqOf s x with
    | some xs => .ok (.lst (cutL xs lo hi)) s
    | none => .stuck
def dSl (f : DE) (lo hi : DOI) : DE := fun δ s => (f δ s).bind fun x s1 => (lo δ s1).bind fun l s2 => (hi δ s2).bind fun u s3 => oSl x l u s3
theorem d_sl {X : Cx} {e : Expr} {lo hi : Option Expr} {p2 pos : Pos} {f : DE} {g h : DOI} (he : PDe T X e f) (hl : PDo T X lo g) (hh : PDo T X hi h) (hK : X.K = T.K := by rfl) : PDe T X (.Subscript e (.Slice lo hi none p2) pos) (dSl f g h) := fun pn xe W tk => by
  obtain ⟨t1, p1, d1⟩ := he pn xe W tk
  obtain ⟨t2, p2, d2⟩ := hl pn xe W tk
  obtain ⟨t3, p3, d3⟩ := hh pn xe W tk
  refine ⟨_, pe_slice (X := X.tr pn xe) (sl_list.or (sl_tup.or sl_str)) p1 p2 p3, fun σ H P ι F δ s Q R E post => ?_⟩
  show t1 σ H _
  refine den_then d1 R E post fun x y H1 ι1 F1 s1 g1 R1 E1 r1 post1 => ?_
  refine den_then d2 R1 E1 post1 fun l l' H2 ι2 F2 s2 g2 R2 E2 r2 post2 => ?_
  refine den_then d3 R2 E2 post2 fun u u' H3 ι3 F3 s3 g3 R3 E3 r3 post3 => ?_
  cases r2
  cases r3
  have rx := (r1.mono g2).mono g3
  have hK' : (X.tr pn xe).K = T.K := hK
  rw [hK']
  unfold oSl at post3
  split at post3
  · rename_i z
    split at post3
    · rename_i hz
      unfold Rp at rx
      refine .inr (.inr ⟨S z, rx, by rw [S_len]; exact lim_le hz, post3.here R3 ?_⟩)
      unfold Rp cutS cutL
      simp [S, Str.length]
    · exact post3.elim
  · rename_i xs
    split at post3
    · exact post3.elim
    · rename_i hw
      obtain ⟨a, vs, rfl, h2, _, h3⟩ := tp_of R3 rx
      refine .inr (.inl ⟨a, vs, rfl, SqT.of h2, by rw [← h3.len]; exact hw, fun p hp => ?_⟩)
      refine post3.new R3 hp fun g => ?_
      unfold Rp
      exact ⟨p, _, rfl, upd_same, (cut_ok h3 l u).mono g⟩
  · split at post3
    · rename_i xs h
      obtain ⟨a, vs, rfl, h2, h3⟩ := lq_of R3 rx h
      refine .inl ⟨a, vs, rfl, h2, fun p hp => ?_⟩
      refine post3.new R3 hp fun g => ?_
      unfold Rp
      exact ⟨p, _, rfl, upd_same, (cut_ok h3 l u).mono g⟩
    · exact post3.elim
/-! ## displays -/
def dTup (f : DA) : DE := fun δ s => (f δ s).bind fun xs s1 => if xs.length ≤ lim then .ok (.tup xs) s1 else .stuck
def dLst (f : DA) : DE := fun δ s => (f δ s).bind fun xs s1 => if xs.length ≤ lim then .ok (.lst xs) s1 else .stuck
theorem d_tup {X : Cx} {es : List Expr} {x1 : Nat} {pos : Pos} {f : DA} (h : PDa T X es f) : PDe T X (.Tuple es x1 pos) (dTup f) := fun pn xe W tk => by
  obtain ⟨t1, p1, d1⟩ := h pn xe W tk
  refine ⟨_, pe_tup p1, fun σ H P ι F δ s Q R E post => ?_⟩
  show t1 σ H _
  refine den_then d1 R E post fun x y H1 ι1 F1 s1 g1 R1 E1 r1 post1 => ?_
  split at post1
  · rename_i hl
    refine ⟨by rw [← r1.1.len]; exact lim_le hl, fun p hp => post1.new R1 hp fun g => ?_⟩
    unfold Rp
    exact ⟨p, _, rfl, upd_same, r1.1.mono g⟩
  · exact post1.elim
theorem d_lst {X : Cx} {es : List Expr} {pos : Pos} {f : DA} (h : PDa T X es f) : PDe T X (.List es pos) (dLst f) := fun pn xe W tk => by
  obtain ⟨t1, p1, d1⟩ := h pn xe W tk
  refine ⟨_, pe_lst p1, fun σ H P ι F δ s Q R E post => ?_⟩
  show t1 σ H _
  refine den_then d1 R E post fun x y H1 ι1 F1 s1 g1 R1 E1 r1 post1 => ?_
  split at post1
  · rename_i hl
    refine ⟨by rw [← r1.1.len]; exact lim_le hl, fun p hp => post1.new R1 hp fun g => ?_⟩
    unfold Rp
    exact ⟨p, _, rfl, upd_same, r1.1.mono g⟩
  · exact post1.elim
/-! ## unary minus -/
def dUn (g : Int → Int) (f : DE) : DE := fun δ s => (f δ s).bind fun x s1 => match x with
  | .int i => .ok (.int (g i)) s1
  | _ => .stuck
theorem d_neg {X : Cx} {a : Expr} {pos : Pos} {f : DE} (h : PDe T X a f) : PDe T X (.UnaryOp .USub a pos) (dUn (fun i => -i) f) := fun pn xe W tk => by
  obtain ⟨t1, p1, d1⟩ := h pn xe W tk
  refine ⟨_, pe_un un_neg p1, fun σ H P ι F δ s Q R E post => ?_⟩
  show t1 σ H _
  refine den_then d1 R E post fun x y H1 ι1 F1 s1 g1 R1 E1 r1 post1 => ?_
  cases x with
  | int i =>
    unfold Rp at r1
    exact ⟨i, r1, post1.here R1 (by unfold Rp; rfl)⟩
  | _ => exact post1.elim
end
end Mp
/-! # MpD -/
namespace Mp
open PySem PySem.Spec L2

/-! ## statements -/
inductive Out where
  | nx (δ : Env) (s : Sto) | rt (d : D) (s : Sto) | bk (δ : Env) (s : Sto) | ct (δ : Env) (s : Sto) | ex (c : Nat) (δ : Env) (s : Sto) | stuck
abbrev DS := Env → Sto → Out
def PostS (T : Tb) (P : Hp) (En : Ends) (W : WX) (F : Hp) (ι : List Addr) : Out → Prop
  | .nx δ' s' => ∀ σ' H' ι' F', Grow F ι F' ι' → RelH T P ι' F' s' H' → REnv T F' ι' δ' σ' → En.nx σ' H'
  | .bk δ' s' => ∀ σ' H' ι' F', Grow F ι F' ι' → RelH T P ι' F' s' H' → REnv T F' ι' δ' σ' → En.bk σ' H'
  | .ct δ' s' => ∀ σ' H' ι' F', Grow F ι F' ι' → RelH T P ι' F' s' H' → REnv T F' ι' δ' σ' → En.ct σ' H'
  | .rt d s' => ∀ v H' ι' F', Grow F ι F' ι' → RelH T P ι' F' s' H' → Rp T F' ι' d v → En.rt v H'
  | .ex c δ' s' => ∀ σ' H' ι' F', Grow F ι F' ι' → RelH T P ι' F' s' H' → REnv T F' ι' δ' σ' → W (.ref (T.ca c)) none σ' H'
  | .stuck => False
theorem PostS.mono {T : Tb} {P : Hp} {En : Ends} {W : WX} {F F1 : Hp} {ι ι1 : List Addr} {r : Out} (g : Grow F ι F1 ι1) (h : PostS T P En W F ι r) : PostS T P En W F1 ι1 r := by
  cases r with
  | stuck => exact h
  | _ => exact fun v H' ι' F' g' => h v H' ι' F' (g.trans g')
def DenS (T : Tb) (W : WX) (t : TS) (g : DS) : Prop := ∀ En σ H P ι F δ s, RelH T P ι F s H → REnv T F ι δ σ → PostS T P En W F ι (g δ s) → t En σ H
def PDs (T : Tb) (X : Cx) (st : Stmt) (g : DS) : Prop := ∀ pn xe W, Takes (X.tr pn xe) W → PassesOwn (model X.prog X.w) X.A X.env xe → ∃ t, PS (X.tr pn xe) st t ∧ DenS T W t g
def PDb (T : Tb) (X : Cx) (st : List Stmt) (g : DS) : Prop := ∀ pn xe W, Takes (X.tr pn xe) W → PassesOwn (model X.prog X.w) X.A X.env xe → ∃ t, PSs (X.tr pn xe) st t ∧ DenS T W t g
/-- a value, then a statement's end -/
def Res.out {α : Type} (δ : Env) : Res α → (α → Sto → Out) → Out
  | .ok a s, k => k a s
  | .exc c s, _ => .ex c δ s
  | .stuck, _ => .stuck
theorem dens_then {α β : Type} {T : Tb} {R1 : Hp → List Addr → α → β → Prop} {W : WX} {t : L2.St → Hp → (β → Hp → Prop) → Prop} {f : Env → Sto → Res α} {k : α → Sto → Out}
    {σ : L2.St} {H P : Hp} {ι : List Addr} {F : Hp} {δ : Env} {s : Sto} {En : Ends} {G : β → Hp → Prop} (h1 : DenG T R1 W t f) (R : RelH T P ι F s H) (E : REnv T F ι δ σ)
    (post : PostS T P En W F ι ((f δ s).out δ k))
    (hk : ∀ x y H1 ι1 F1 s1, Grow F ι F1 ι1 → RelH T P ι1 F1 s1 H1 → REnv T F1 ι1 δ σ → R1 F1 ι1 x y → PostS T P En W F1 ι1 (k x s1) → G y H1) : t σ H G := by
  refine h1 σ H P ι F δ s G R E ?_
  cases e : f δ s with
  | ok x s1 =>
    rw [e] at post
    exact fun v H' ι' F' g R' r => hk x v H' ι' F' s1 g R' (E.mono g) r (post.mono g)
  | exc c s1 =>
    rw [e] at post
    exact fun H' ι' F' g R' => post σ H' ι' F' g R' (E.mono g)
  | stuck =>
    rw [e] at post
    exact post
/-! ## targets -/
abbrev DTg := D → Env → Option Env
def tgN (i : Nat) : DTg := fun d δ => some (δ.set i (some d))
def tgs : List DTg → List D → Env → Option Env
  | [], [], δ => some δ
  | t :: ts, d :: ds, δ => (t d δ).bind fun δ1 => tgs ts ds δ1
  | _, _, _ => none
def tgT (ts : List DTg) : DTg := fun d δ => match d with
  | .tup xs => tgs ts xs δ
  | _ => none
/-- apart from the slots ws they are the same -/
def Off (ws : List Nat) (σ σ' : L2.St) : Prop := σ'.length = σ.length ∧ ∀ j, j ∉ ws → σ'[j]? = σ[j]?
def DenT (T : Tb) (ws : List Nat) (g : TG) (f : DTg) : Prop := ∀ σ H P ι F δ δ' s d v Q, RelH T P ι F s H → REnv T F ι δ σ → Rp T F ι d v → f d δ = some δ' → (∀ σ', REnv T F ι δ' σ' → Off ws σ σ' → Q σ' H) → g v σ H Q
def DenTs (T : Tb) (ws : List Nat) (g : TGs) (f : List DTg) : Prop := ∀ σ H P ι F δ δ' s ds vs Q, RelH T P ι F s H → REnv T F ι δ σ → Rps T F ι ds vs → tgs f ds δ = some δ' → (∀ σ', REnv T F ι δ' σ' → Off ws σ σ' → Q σ' H) → g vs σ H Q
def PDg (T : Tb) (X : Cx) (tg : Expr) (ws : List Nat) (f : DTg) : Prop := ∀ pn xe, ∃ g, PG (X.tr pn xe) tg g ∧ DenT T ws g f
def PDgs (T : Tb) (X : Cx) (tg : List Expr) (ws : List Nat) (f : List DTg) : Prop := ∀ pn xe, ∃ g, PGs (X.tr pn xe) tg g ∧ DenTs T ws g f
theorem Off.refl (ws : List Nat) (σ : L2.St) : Off ws σ σ := ⟨rfl, fun _ _ => rfl⟩
theorem Off.set (σ : L2.St) (i : Nat) (o : Option V) : Off [i] σ (σ.set i o) := ⟨by simp, fun j hj => by rw [List.getElem?_set_ne (by intro h; exact hj (by simp [h]))]⟩
theorem Off.app {ws vs : List Nat} {a b c : L2.St} (h : Off ws a b) (k : Off vs b c) : Off (ws ++ vs) a c :=
  ⟨k.1.trans h.1, fun j hj => (k.2 j (fun z => hj (List.mem_append_right _ z))).trans (h.2 j (fun z => hj (List.mem_append_left _ z)))⟩
theorem wipe_at (σ : L2.St) (j : Nat) : ∀ vs : List Nat, (wipe σ vs)[j]? = if j ∈ vs ∧ j < σ.length then some none else σ[j]?
  | [] => by simp [wipe]
  | v :: vs => by
    unfold wipe
    rw [List.getElem?_set, wipe_length, wipe_at σ j vs]
    by_cases h : v = j
    · subst h
      by_cases hl : v < σ.length
      · simp [hl]
      · simp [hl, List.getElem?_eq_none (Nat.le_of_not_lt hl)]
    · have h' : ¬ j = v := fun z => h z.symm
      simp [h, h']
theorem Off.wipe {ws vs : List Nat} {σ σ' : L2.St} (h : Off ws σ σ') (hs : ∀ i ∈ ws, i ∈ vs) : L2.wipe σ' vs = L2.wipe σ vs := by
  refine List.ext_getElem? fun j => ?_
  rw [wipe_at, wipe_at, h.1]
  by_cases c : j ∈ vs ∧ j < σ.length
  · rw [if_pos c, if_pos c]
  · rw [if_neg c, if_neg c]
    by_cases hj : j ∈ ws
    · have hl : ¬ j < σ.length := fun z => c ⟨hs j hj, z⟩
      rw [List.getElem?_eq_none (Nat.le_of_not_lt hl), List.getElem?_eq_none (by rw [h.1]; exact Nat.le_of_not_lt hl)]
    · exact h.2 j hj
section
variable {T : Tb} {X : Cx}
theorem g_name {x : Str} {pos : Pos} (i : Nat) (hN : X.N.Nodup) (hi : X.N[i]? = some x := by rfl) (hx : Loc X.env.scope x := by first | exact Or.inl rfl | exact Or.inr rfl) (hf : X.fn x = true ∨ X.env.scope.names.lookup x = some .local := by first | exact .inl rfl | exact .inr rfl) : PDg T X (.Name x pos) [i] (tgN i) := fun pn xe =>
  ⟨_, pg_name (X := X.tr pn xe) hN hi hx hf, fun σ H P ι F δ δ' s d v Q R E r e k => by
    cases e
    exact k _ (E.set r i) (Off.set _ _ _)⟩
theorem gs_nil : PDgs T X [] [] [] := fun pn xe => ⟨_, pgs_nil, fun σ H P ι F δ δ' s ds vs Q R E r e k => by
    cases ds with
    | nil =>
      unfold Rps at r
      subst r
      cases e
      exact ⟨rfl, k _ E (Off.refl _ _)⟩
    | cons d ds => cases e⟩
theorem gs_cons {e : Expr} {es : List Expr} {ws vs : List Nat} {f : DTg} {fs : List DTg} (h1 : PDg T X e ws f) (h2 : PDgs T X es vs fs) (hs : (assignEach (e :: es) X.env).map (·.2) = assign e X.env :: (assignEach es X.env).map (·.2) := by rfl) : PDgs T X (e :: es) (ws ++ vs) (f :: fs) := fun pn xe => by
  obtain ⟨g1, p1, d1⟩ := h1 pn xe
  obtain ⟨g2, p2, d2⟩ := h2 pn xe
  refine ⟨_, pgs_cons (X := X.tr pn xe) p1 p2 hs, fun σ H P ι F δ δ' s ds vs Q R E r e k => ?_⟩
  cases ds with
  | nil => cases e
  | cons d ds =>
    unfold Rps at r
    obtain ⟨v, us, rfl, r1, r2⟩ := r
    have e' : (f d δ).bind (fun δ1 => tgs fs ds δ1) = some δ' := e
    cases q : f d δ with
    | none => rw [q] at e'; cases e'
    | some δ1 =>
      rw [q] at e'
      exact ⟨v, us, rfl, d1 _ _ _ _ _ _ _ _ _ _ _ R E r1 q fun σ1 E1 o1 => d2 _ _ _ _ _ _ _ _ _ _ _ R E1 r2 e' fun σ2 E2 o2 => k σ2 E2 (o1.app o2)⟩
theorem tgs_len : ∀ {ts : List DTg} {ds : List D} {δ δ' : Env}, tgs ts ds δ = some δ' → ds.length = ts.length
  | [], [], _, _, _ => rfl
  | [], _ :: _, _, _, e => by cases e
  | _ :: _, [], _, _, e => by cases e
  | t :: ts, d :: ds, δ, δ', e => by
    have e' : (t d δ).bind (fun δ1 => tgs ts ds δ1) = some δ' := e
    cases q : t d δ with
    | none => rw [q] at e'; cases e'
    | some δ1 => rw [q] at e'; simp [tgs_len e']
theorem g_tup {es : List Expr} {k : Nat} {pos : Pos} {ws : List Nat} {fs : List DTg} (h : PDgs T X es ws fs) (hn : (assignEach es X.env).length = fs.length := by rfl) (hst : (assignEach es X.env).findIdx? (·.1) = none := by rfl) (hc : X.calm = true := by rfl) (hK : X.K = T.K := by rfl) : PDg T X (.Tuple es k pos) ws (tgT fs) := fun pn xe => by
  obtain ⟨g1, p1, d1⟩ := h pn xe
  refine ⟨_, pg_tup (X := X.tr pn xe) hc p1 hn hst, fun σ H P ι F δ δ' s d v Q R E r e k => ?_⟩
  cases d with
  | tup xs =>
    obtain ⟨a, vs, rfl, h1, _, h2⟩ := tp_of R r
    have e' : tgs fs xs δ = some δ' := e
    refine ⟨a, vs, rfl, SqT.of h1, ?_, d1 _ _ _ _ _ _ _ _ _ _ _ R E h2 e' k⟩
    rw [← h2.len]
    exact tgs_len e'
  | _ => cases e
/-! ## simple statements -/
def sAsg (f : DE) (t : DTg) : DS := fun δ s => (f δ s).out δ fun d s1 => match t d δ with
  | some δ1 => .nx δ1 s1
  | none => .stuck
theorem s_asg {tg e : Expr} {pos : Pos} {f : DE} {ws : List Nat} {t : DTg} (he : PDe T X e f) (hg : PDg T X tg ws t) (hs : swapsWithSole [tg] e pos.line X.env = pure false := by rfl) (hw : swappedStores [tg] e X.env = pure none := by rfl)
    (h1 : (assignEach [tg] X.env).map (·.2) = [assign tg X.env] := by rfl) : PDs T X (.Assign [tg] e pos) (sAsg f t) := fun pn xe W tk _ => by
  obtain ⟨t1, p1, d1⟩ := he pn xe W tk
  obtain ⟨g1, q1, e1⟩ := hg pn xe
  refine ⟨_, ps_asg (X := X.tr pn xe) p1 q1 hs hw h1, fun En σ H P ι F δ s R E post => ?_⟩
  show t1 σ H _
  refine dens_then d1 R E post fun x y H1 ι1 F1 s1 g R1 E1 r1 post1 => ?_
  cases q : t x δ with
  | none => rw [q] at post1; exact post1.elim
  | some δ1 =>
    rw [q] at post1
    exact e1 _ _ _ _ _ _ _ _ _ _ _ R1 E1 r1 q fun σ' E' _ => post1 σ' H1 ι1 F1 (Grow.refl _ _) R1 E'
def sSet (i : Nat) (f : DE) : DS := sAsg f (tgN i)
theorem s_set {x : Str} {e : Expr} {pos pos' : Pos} {f : DE} (i : Nat) (hN : X.N.Nodup) (he : PDe T X e f) (hi : X.N[i]? = some x := by rfl) (hx : Loc X.env.scope x := by first | exact Or.inl rfl | exact Or.inr rfl)
    (hs : swapsWith e (some (.Name x pos')) pos.line X.env = pure false := by rfl) (hf : X.fn x = true ∨ X.env.scope.names.lookup x = some .local := by first | exact .inl rfl | exact .inr rfl) : PDs T X (.Assign [.Name x pos'] e pos) (sSet i f) := fun pn xe W tk _ => by
  obtain ⟨t1, p1, d1⟩ := he pn xe W tk
  refine ⟨_, ps_set (X := X.tr pn xe) hN hi hx p1 hs hf, fun En σ H P ι F δ s R E post => ?_⟩
  show t1 σ H _
  refine dens_then d1 R E post fun x y H1 ι1 F1 s1 g R1 E1 r1 post1 => ?_
  exact post1 _ H1 ι1 F1 (Grow.refl _ _) R1 (E1.set r1 i)
def sDrop (f : DE) : DS := fun δ s => (f δ s).out δ fun _ s1 => .nx δ s1
theorem s_expr {e : Expr} {pos : Pos} {f : DE} (he : PDe T X e f) (hs : swapsWith e none pos.line X.env = pure false := by rfl) : PDs T X (.Expr e pos) (sDrop f) := fun pn xe W tk _ => by
  obtain ⟨t1, p1, d1⟩ := he pn xe W tk
  refine ⟨_, ps_expr (X := X.tr pn xe) p1 hs, fun En σ H P ι F δ s R E post => ?_⟩
  show t1 σ H _
  refine dens_then d1 R E post fun x y H1 ι1 F1 s1 g R1 E1 r1 post1 => ?_
  exact post1 _ H1 ι1 F1 (Grow.refl _ _) R1 E1
def sRet (f : DE) : DS := fun δ s => (f δ s).out δ fun d s1 => .rt d s1
theorem s_ret {e : Expr} {pos : Pos} {f : DE} (he : PDe T X e f) : PDs T X (.Return (some e) pos) (sRet f) := fun pn xe W tk _ => by
  obtain ⟨t1, p1, d1⟩ := he pn xe W tk
  refine ⟨_, ps_ret p1, fun En σ H P ι F δ s R E post => ?_⟩
  show t1 σ H _
  refine dens_then d1 R E post fun x y H1 ι1 F1 s1 g R1 E1 r1 post1 => ?_
  exact post1 y H1 ι1 F1 (Grow.refl _ _) R1 r1
def sRetN : DS := fun _ s => .rt .non s
theorem s_retN {pos : Pos} : PDs T X (.Return none pos) sRetN := fun pn xe W _ _ => ⟨_, ps_retN, fun En σ H P ι F δ s R E post => post .non H ι F (Grow.refl _ _) R (by unfold Rp; rfl)⟩
def sPass : DS := fun δ s => .nx δ s
def sBrk : DS := fun δ s => .bk δ s
def sCt : DS := fun δ s => .ct δ s
theorem s_pass {pos : Pos} : PDs T X (.Pass pos) sPass := fun pn xe W _ _ => ⟨_, ps_pass, fun En σ H P ι F δ s R E post => post σ H ι F (Grow.refl _ _) R E⟩
theorem s_brk {pos : Pos} : PDs T X (.Break pos) sBrk := fun pn xe W _ _ => ⟨_, ps_break, fun En σ H P ι F δ s R E post => post σ H ι F (Grow.refl _ _) R E⟩
theorem s_ct {pos : Pos} : PDs T X (.Continue pos) sCt := fun pn xe W _ _ => ⟨_, ps_continue, fun En σ H P ι F δ s R E post => post σ H ι F (Grow.refl _ _) R E⟩
def sIf (c : DT) (f g : DS) : DS := fun δ s => (c δ s).out δ fun b s1 => match b with
  | true => f δ s1
  | false => g δ s1
theorem s_if {c : Expr} {a b : List Stmt} {pos : Pos} {fc : DT} {f g : DS} (hc : PDt T X c fc) (ha : PDb T X a f) (hb : PDb T X b g) : PDs T X (.If c a b pos) (sIf fc f g) := fun pn xe W tk ow => by
  obtain ⟨t0, p0, d0⟩ := hc pn xe W tk
  obtain ⟨t1, p1, d1⟩ := ha pn xe W tk ow
  obtain ⟨t2, p2, d2⟩ := hb pn xe W tk ow
  refine ⟨_, ps_if p0 p1 p2, fun En σ H P ι F δ s R E post => ?_⟩
  show t0 σ H _
  refine dens_then d0 R E post fun x y H1 ι1 F1 s1 g R1 E1 r1 post1 => ?_
  cases r1
  cases x with
  | true =>
    rw [if_pos rfl]
    exact d1 _ _ _ _ _ _ _ _ R1 E1 post1
  | false =>
    rw [if_neg Bool.false_ne_true]
    exact d2 _ _ _ _ _ _ _ _ R1 E1 post1
/-! ## blocks -/
def Out.andThen (o : Out) (k : DS) : Out := match o with
  | .nx δ s => k δ s
  | o => o
def sSeq (f g : DS) : DS := fun δ s => (f δ s).andThen g
theorem b_nil : PDb T X [] sPass := fun pn xe W _ _ => ⟨_, pss_nil, fun En σ H P ι F δ s R E post => post σ H ι F (Grow.refl _ _) R E⟩
theorem b_one {st : Stmt} {f : DS} (h : PDs T X st f) : PDb T X [st] f := fun pn xe W tk ow => by
  obtain ⟨t1, p1, d1⟩ := h pn xe W tk ow
  exact ⟨_, pss_one p1, d1⟩
theorem b_cons {st : Stmt} {rest : List Stmt} {f g : DS} (h : PDs T X st f) (hr : PDb T X rest g) : PDb T X (st :: rest) (sSeq f g) := fun pn xe W tk ow => by
  obtain ⟨t1, p1, d1⟩ := h pn xe W tk ow
  obtain ⟨t2, p2, d2⟩ := hr pn xe W tk ow
  refine ⟨_, pss_cons p1 p2, fun En σ H P ι F δ s R E post => ?_⟩
  show t1 { En with nx := t2 En } σ H
  refine d1 _ _ _ _ _ _ _ _ R E ?_
  unfold sSeq at post
  cases e : f δ s with
  | nx δ1 s1 =>
    rw [e] at post
    exact fun σ' H' ι' F' g' R' E' => d2 _ _ _ _ _ _ _ _ R' E' (post.mono g')
  | rt d s1 => rw [e] at post; exact post
  | bk δ1 s1 => rw [e] at post; exact post
  | ct δ1 s1 => rw [e] at post; exact post
  | ex c δ1 s1 => rw [e] at post; exact post
  | stuck => rw [e] at post; exact post
/-! ## iterables -/
def Walks (T : Tb) (J : It) (ds : List D) (F : Hp) (ι : List Addr) : Prop :=
  L2.Walk J ds.length (fun H => ∀ a o, F a = some o → H a = some o) fun i H x H2 => ∃ d, ds[i]? = some d ∧
    ((H2 = H ∧ Rp T F ι d x) ∨ ∃ p vs xs, x = .ref p ∧ H p = none ∧ H2 = upd H p (.tup vs) ∧ d = .tup xs ∧ Rps T F ι xs vs)
abbrev DIt := Env → Sto → Res (List D)
def DenI (T : Tb) (W : WX) (wi : TI) (f : DIt) : Prop := DenG T (fun F ι ds J => Walks T J ds F ι) W wi f
def PDi (T : Tb) (X : Cx) (tg iter : Expr) (f : DIt) : Prop := ∀ pn xe W, Takes (X.tr pn xe) W → ∃ wi, PI (X.tr pn xe) tg iter wi ∧ DenI T W wi f
theorem get_lt {α : Type} {xs : List α} {i : Nat} (h : i < xs.length) : ∃ x, xs[i]? = some x := ⟨xs[i], by simp [h]⟩
theorem walks_list {F : Hp} {ι : List Addr} {a : Addr} {vs : List V} {ds : List D} (h : SqL T.K F a vs) (r : Rps T F ι ds vs) : Walks T (Itl T.K a) ds F ι := by
  have w : L2.Walk (Itl T.K a) vs.length (fun H => SqL T.K H a vs) (YAt vs) := walk_list
  unfold Walks
  rw [r.len]
  refine w.mono (fun H hF => sql_mono hF h) fun i H x H' hi hF y => ?_
  obtain ⟨e1, e2⟩ := y
  have hi' : i < ds.length := by rw [r.len]; exact hi
  obtain ⟨d, hd⟩ := get_lt hi'
  obtain ⟨v, h1, h2⟩ := r.get hd
  rw [e2] at h1
  cases h1
  exact ⟨d, hd, .inl ⟨e1, h2⟩⟩
theorem walks_tup {F : Hp} {ι : List Addr} {a : Addr} {vs : List V} {ds : List D} (h : F a = some (.tup vs)) (r : Rps T F ι ds vs) : Walks T (Itt T.K a) ds F ι := by
  have w : L2.Walk (Itt T.K a) vs.length (fun H => SqT T.K H a vs) (YAt vs) := walk_tup
  unfold Walks
  rw [r.len]
  refine w.mono (fun H hF => SqT.of (hF _ _ h)) fun i H x H' hi hF y => ?_
  obtain ⟨e1, e2⟩ := y
  have hi' : i < ds.length := by rw [r.len]; exact hi
  obtain ⟨d, hd⟩ := get_lt hi'
  obtain ⟨v, h1, h2⟩ := r.get hd
  rw [e2] at h1
  cases h1
  exact ⟨d, hd, .inl ⟨e1, h2⟩⟩
/-- a list or a tuple that stays -/
def itSeq (f : DE) : DIt := fun δ s => (f δ s).bind fun x s1 => match x with
  | .lst xs => .ok xs s1
  | .scr ns => .ok (ns.map D.int) s1
  | .tup xs => .ok xs s1
  | _ => .stuck
theorem PI.or {tg e : Expr} {w w' : TI} (h : PI X tg e w) (h' : PI X tg e w') : PI X tg e (fun σ H R => w σ H R ∨ w' σ H R) := ⟨fun pins s σ H R I q => by
  rcases q with q | q
  · exact h.run pins s σ H R I q
  · exact h'.run pins s σ H R I q⟩
theorem den_iL {W : WX} {t : TE} {f : DE} (h : DenG T (Rp T) W t f) {σ : L2.St} {H P : Hp} {ι : List Addr} {F : Hp} {δ : Env} {s : Sto} {Q : It → Hp → Prop} (R : RelH T P ι F s H) (E : REnv T F ι δ σ)
    (post : Post T P (fun F ι ds J => Walks T J ds F ι) Q (fun c H' => W (.ref (T.ca c)) none σ H') F ι ((f δ s).bind fun x s1 => match x with
      | .lst xs => .ok xs s1
      | .scr ns => .ok (ns.map D.int) s1
      | _ => .stuck)) : iList T.K t σ H Q := by
  show t σ H _
  refine den_then h R E post fun x y H1 ι1 F1 s1 g R1 E1 r1 post1 => ?_
  cases x with
  | lst xs =>
    unfold Rp at r1
    obtain ⟨a, vs, rfl, h1, h2⟩ := r1
    exact ⟨a, rfl, ⟨vs, SqL.of (R1.sub _ _ h1)⟩, post1.here R1 (walks_list (SqL.of h1) h2)⟩
  | scr ns =>
    unfold Rp at r1
    obtain ⟨a, rfl, h1⟩ := r1
    exact ⟨a, rfl, ⟨_, sql_mono R1.sub h1⟩, post1.here R1 (walks_list h1 (rps_ints ns))⟩
  | _ => exact post1.elim
theorem den_iT {W : WX} {t : TE} {f : DE} (h : DenG T (Rp T) W t f) {σ : L2.St} {H P : Hp} {ι : List Addr} {F : Hp} {δ : Env} {s : Sto} {Q : It → Hp → Prop} (R : RelH T P ι F s H) (E : REnv T F ι δ σ)
    (post : Post T P (fun F ι ds J => Walks T J ds F ι) Q (fun c H' => W (.ref (T.ca c)) none σ H') F ι ((f δ s).bind fun x s1 => match x with
      | .tup xs => .ok xs s1
      | _ => .stuck)) : iTup T.K t σ H Q := by
  show t σ H _
  refine den_then h R E post fun x y H1 ι1 F1 s1 g R1 E1 r1 post1 => ?_
  cases x with
  | tup xs =>
    obtain ⟨a, vs, rfl, h1, h0, h2⟩ := tp_of R1 r1
    exact ⟨a, rfl, ⟨vs, SqT.of h1⟩, post1.here R1 (walks_tup h0 h2)⟩
  | _ => exact post1.elim
theorem i_seq {tg e : Expr} {f : DE} (h : PDe T X e f) (hK : X.K = T.K := by rfl) : PDi T X tg e (itSeq f) := fun pn xe W tk => by
  obtain ⟨t1, p1, d1⟩ := h pn xe W tk
  have hK' : (X.tr pn xe).K = T.K := hK
  refine ⟨_, PI.or (pi_list p1) (pi_tup p1), fun σ H P ι F δ s Q R E post => ?_⟩
  rw [hK']
  unfold itSeq at post
  cases e : f δ s with
  | ok x s1 =>
    rw [e] at post
    cases x with
    | lst xs => exact .inl (den_iL d1 R E (by rw [e]; exact post))
    | scr ns => exact .inl (den_iL d1 R E (by rw [e]; exact post))
    | tup xs => exact .inr (den_iT d1 R E (by rw [e]; exact post))
    | _ => exact post.elim
  | exc c s1 => rw [e] at post; exact .inl (den_iL d1 R E (by rw [e]; exact post))
  | stuck => rw [e] at post; exact post.elim
/-- range(n), range(a, b) -/
def intsD (a : Int) (n : Nat) : List D := (List.range n).map fun (i : Nat) => D.int (a + (i : Int))
def small62 (i : Int) : Bool := decide (-(2 ^ 62) ≤ i) && decide (i < 2 ^ 62)
def itR1 (f : DA) : DIt := fun δ s => (f δ s).bind fun xs s1 => match xs with
  | [.int n] => if small62 n = true then .ok (intsD 0 n.toNat) s1 else .stuck
  | _ => .stuck
def itR2 (f : DA) : DIt := fun δ s => (f δ s).bind fun xs s1 => match xs with
  | [.int a, .int b] => if (small62 a && small62 b) = true then .ok (intsD a (b - a).toNat) s1 else .stuck
  | _ => .stuck
theorem walks_range {F : Hp} {ι : List Addr} (a : Int) (n : Nat) : Walks T (Itr a n) (intsD a n) F ι := by
  have w : L2.Walk (Itr a n) n (fun _ => True) (YFn fun i => .int (a + i)) := walk_range
  unfold Walks
  have hl : (intsD a n).length = n := by simp [intsD]
  rw [hl]
  refine w.mono (fun H hF => trivial) fun i H x H' hi hF y => ?_
  obtain ⟨e1, e2⟩ := y
  refine ⟨.int (a + i), ?_, .inl ⟨e1, by unfold Rp; exact e2⟩⟩
  simp [intsD, List.getElem?_range hi]
theorem rps1 {F : Hp} {ι : List Addr} {d : D} {vs : List V} (r : Rps T F ι [d] vs) : ∃ v, vs = [v] ∧ Rp T F ι d v := by
  unfold Rps at r
  obtain ⟨v, us, rfl, h1, h2⟩ := r
  unfold Rps at h2
  subst h2
  exact ⟨v, rfl, h1⟩
theorem rps2 {F : Hp} {ι : List Addr} {d e : D} {vs : List V} (r : Rps T F ι [d, e] vs) : ∃ v u, vs = [v, u] ∧ Rp T F ι d v ∧ Rp T F ι e u := by
  unfold Rps at r
  obtain ⟨v, us, rfl, h1, h2⟩ := r
  obtain ⟨u, rfl, h3⟩ := rps1 h2
  exact ⟨v, u, rfl, h1, h3⟩
theorem i_range1 {tg a : Expr} {p pos : Pos} {f : DA} (hm : X.mg "range" = none) (ha : PDa T X [a] f) (hg : Gl X "range" := by rfl) (hs : starEach [a] X.env = [(false, eval a X.env)] := by rfl) : PDi T X tg (.Call (.Name "range" p) [a] [] pos) (itR1 f) := fun pn xe W tk => by
  obtain ⟨t1, p1, d1⟩ := ha pn xe W tk
  refine ⟨_, pi_range1 (X := X.tr pn xe) hg hm p1 hs, fun σ H P ι F δ s Q R E post => ?_⟩
  show t1 σ H _
  refine den_then d1 R E post fun x y H1 ι1 F1 s1 g R1 E1 r1 post1 => ?_
  split at post1
  · obtain ⟨v, rfl, h1⟩ := rps1 r1.1
    unfold Rp at h1
    split at post1
    · rename_i hn
      unfold small62 at hn
      simp only [Bool.and_eq_true, decide_eq_true_eq] at hn
      exact ⟨_, by rw [h1], hn.1, hn.2, post1.here R1 (walks_range _ _)⟩
    · exact post1.elim
  · exact post1.elim
theorem i_range2 {tg a b : Expr} {p pos : Pos} {f : DA} (hm : X.mg "range" = none) (ha : PDa T X [a, b] f) (hg : Gl X "range" := by rfl) (hs : starEach [a, b] X.env = [(false, eval a X.env), (false, eval b X.env)] := by rfl) (hs2 : starEach [b] X.env = [(false, eval b X.env)] := by rfl) : PDi T X tg (.Call (.Name "range" p) [a, b] [] pos) (itR2 f) := fun pn xe W tk => by
  obtain ⟨t1, p1, d1⟩ := ha pn xe W tk
  refine ⟨_, pi_range2 (X := X.tr pn xe) hg hm p1 hs hs2, fun σ H P ι F δ s Q R E post => ?_⟩
  show t1 σ H _
  refine den_then d1 R E post fun x y H1 ι1 F1 s1 g R1 E1 r1 post1 => ?_
  split at post1
  · obtain ⟨v, u, rfl, h1, h2⟩ := rps2 r1.1
    unfold Rp at h1 h2
    split at post1
    · rename_i hn
      unfold small62 at hn
      simp only [Bool.and_eq_true, decide_eq_true_eq] at hn
      exact ⟨_, _, by rw [h1, h2], ⟨hn.1.1, hn.1.2, hn.2.1, hn.2.2⟩, post1.here R1 (walks_range _ _)⟩
    · exact post1.elim
  · exact post1.elim
/-- zip of two lists, of two tuples -/
def zipD : List D → List D → List D
  | x :: xs, y :: ys => .tup [x, y] :: zipD xs ys
  | _, _ => []
theorem zipD_len : ∀ (xs ys : List D), (zipD xs ys).length = min xs.length ys.length
  | [], _ => by simp [zipD]
  | _ :: _, [] => by simp [zipD]
  | x :: xs, y :: ys => by simp [zipD, zipD_len xs ys]
theorem zipD_at : ∀ {xs ys : List D} {i : Nat} {x y : D}, xs[i]? = some x → ys[i]? = some y → (zipD xs ys)[i]? = some (.tup [x, y])
  | [], _, _, _, _, h, _ => by simp at h
  | _ :: _, [], _, _, _, _, h => by simp at h
  | a :: xs, b :: ys, 0, x, y, h, k => by simp at h k; subst h k; rfl
  | a :: xs, b :: ys, i + 1, x, y, h, k => by
    have := zipD_at (xs := xs) (ys := ys) (i := i) (x := x) (y := y) (by simpa using h) (by simpa using k)
    simpa [zipD] using this
def itZip (f : DA) : DIt := fun δ s => (f δ s).bind fun xs s1 => match xs with
  | [.lst a, .lst b] => .ok (zipD a b) s1
  | [.tup a, .tup b] => .ok (zipD a b) s1
  | _ => .stuck
theorem walks_zip {F : Hp} {ι : List Addr} {a b : Addr} {vs us : List V} {ds es : List D} (h : SqL T.K F a vs) (h' : SqL T.K F b us) (r : Rps T F ι ds vs) (r' : Rps T F ι es us) : Walks T (Itz T.K a b) (zipD ds es) F ι := by
  have w : L2.Walk (Itz T.K a b) (min vs.length us.length) (fun H => SqL T.K H a vs ∧ SqL T.K H b us) (YPair (fun i => vs[i]?) (fun i => us[i]?)) := walk_zip rfl
  unfold Walks
  rw [zipD_len, r.len, r'.len]
  refine w.mono (fun H hF => ⟨sql_mono hF h, sql_mono hF h'⟩) fun i H x H' hi hF y => ?_
  obtain ⟨p, v, u, e1, e2, e3, e4, e5⟩ := y
  have hi1 : i < ds.length := by rw [r.len]; omega
  have hi2 : i < es.length := by rw [r'.len]; omega
  obtain ⟨d, hd⟩ := get_lt hi1
  obtain ⟨e, he⟩ := get_lt hi2
  obtain ⟨v', h1, h2⟩ := r.get hd
  obtain ⟨u', h3, h4⟩ := r'.get he
  have e4' : vs[i]? = some v := e4
  have e5' : us[i]? = some u := e5
  rw [e4'] at h1
  rw [e5'] at h3
  cases h1
  cases h3
  exact ⟨_, zipD_at hd he, .inr ⟨p, [v, u], [d, e], e1, e2, e3, rfl, .cons h2 (.cons h4 .nil)⟩⟩
theorem walk_zipT {K : PySem.W.Frag} {a b : Addr} {xs ys : List V} : L2.Walk (RZ.ItzT K a b) (min xs.length ys.length) (fun H => H a = some (.tup xs) ∧ H b = some (.tup ys)) (YPair (fun i => xs[i]?) (fun i => ys[i]?)) where
  goes := fun i H hi h => by
    obtain ⟨x, hx⟩ := get_lt (xs := xs) (i := i) (by omega)
    obtain ⟨y, hy⟩ := get_lt (xs := ys) (i := i) (by omega)
    exact ⟨xs, ys, x, y, SqT.of h.1, SqT.of h.2, hx, hy⟩
  stops := fun H h => ⟨xs, ys, SqT.of h.1, SqT.of h.2, by omega⟩
  yields := fun i H x H' hi h y => by
    obtain ⟨p, v, u, e1, e2, e3, e4, e5⟩ := y
    exact ⟨p, v, u, e1, e2, e3, e4 _ (SqT.of h.1), e5 _ (SqT.of h.2)⟩
theorem walks_zipT {F : Hp} {ι : List Addr} {a b : Addr} {vs us : List V} {ds es : List D} (h : F a = some (.tup vs)) (h' : F b = some (.tup us)) (r : Rps T F ι ds vs) (r' : Rps T F ι es us) : Walks T (RZ.ItzT T.K a b) (zipD ds es) F ι := by
  have w : L2.Walk (RZ.ItzT T.K a b) (min vs.length us.length) (fun H => H a = some (.tup vs) ∧ H b = some (.tup us)) (YPair (fun i => vs[i]?) (fun i => us[i]?)) := walk_zipT
  unfold Walks
  rw [zipD_len, r.len, r'.len]
  refine w.mono (fun H hF => ⟨hF _ _ h, hF _ _ h'⟩) fun i H x H' hi hF y => ?_
  obtain ⟨p, v, u, e1, e2, e3, e4, e5⟩ := y
  have hi1 : i < ds.length := by rw [r.len]; omega
  have hi2 : i < es.length := by rw [r'.len]; omega
  obtain ⟨d, hd⟩ := get_lt hi1
  obtain ⟨e, he⟩ := get_lt hi2
  obtain ⟨v', h1, h2⟩ := r.get hd
  obtain ⟨u', h3, h4⟩ := r'.get he
  have e4' : vs[i]? = some v := e4
  have e5' : us[i]? = some u := e5
  rw [e4'] at h1
  rw [e5'] at h3
  cases h1
  cases h3
  exact ⟨_, zipD_at hd he, .inr ⟨p, [v, u], [d, e], e1, e2, e3, rfl, .cons h2 (.cons h4 .nil)⟩⟩
theorem i_zip {e e2 : Expr} {p pos tpos : Pos} {elts : List Expr} {kk : Nat} {f : DA} (hm : X.mg "zip" = none) (ha : PDa T X [e, e2] f) (hg : Gl X "zip" := by rfl)
    (hs : starEach [e, e2] X.env = (false, eval e X.env) :: starEach [e2] X.env := by rfl) (hpl : (backTo pos (starEach [e2] X.env)).any (·.1) = false := by rfl) (hK : X.K = T.K := by rfl) :
    PDi T X (.Tuple elts kk tpos) (.Call (.Name "zip" p) [e, e2] [] pos) (itZip f) := fun pn xe W tk => by
  obtain ⟨t1, p1, d1⟩ := ha pn xe W tk
  have hK' : (X.tr pn xe).K = T.K := hK
  refine ⟨_, RZ.pi_zipA (X := X.tr pn xe) hg hm p1 hs hpl, fun σ H P ι F δ s Q R E post => ?_⟩
  rw [hK']
  show t1 σ H _
  refine den_then d1 R E post fun x y H1 ι1 F1 s1 g R1 E1 r1 post1 => ?_
  split at post1
  · obtain ⟨v, u, rfl, h1, h2⟩ := rps2 r1.1
    unfold Rp at h1 h2
    obtain ⟨a, vs, rfl, h3, h4⟩ := h1
    obtain ⟨b, us, rfl, h5, h6⟩ := h2
    exact ⟨a, b, vs, us, rfl, .inl ⟨SqL.of (R1.sub _ _ h3), SqL.of (R1.sub _ _ h5), post1.here R1 (walks_zip (SqL.of h3) (SqL.of h5) h4 h6)⟩⟩
  · obtain ⟨v, u, rfl, h1, h2⟩ := rps2 r1.1
    obtain ⟨a, vs, rfl, h3, h3', h4⟩ := tp_of R1 h1
    obtain ⟨b, us, rfl, h5, h5', h6⟩ := tp_of R1 h2
    exact ⟨a, b, vs, us, rfl, .inr ⟨SqT.of h3, SqT.of h5, post1.here R1 (walks_zipT h3' h5' h4 h6)⟩⟩
  · exact post1.elim
/-! ## for -/
def forL (t : DTg) (body : DS) : List D → DS
  | [], δ, s => .nx δ s
  | d :: r, δ, s => match t d δ with
    | none => .stuck
    | some δ1 => match body δ1 s with
      | .nx δ2 s2 => forL t body r δ2 s2
      | .ct δ2 s2 => forL t body r δ2 s2
      | .bk δ2 s2 => .nx δ2 s2
      | o => o
def sFor (it : DIt) (t : DTg) (body : DS) : DS := fun δ s => (it δ s).out δ fun ds s1 => forL t body ds δ s1
theorem drop_get {α : Type} {xs : List α} {i : Nat} {x : α} (h : xs[i]? = some x) : xs.drop i = x :: xs.drop (i + 1) := by
  have hi := (List.getElem?_eq_some_iff.mp h).1
  have e := (List.getElem?_eq_some_iff.mp h).2
  rw [List.drop_eq_getElem_cons hi, e]
/-- the item has come: the heap goes on, the item is at hand -/
theorem item_ok {P : Hp} {ι0 ι : List Addr} {F0 F : Hp} {s : Sto} {H H2 : Hp} {d : D} {x : V} (g : Grow F0 ι0 F ι) (R : RelH T P ι F s H) (y : (H2 = H ∧ Rp T F0 ι0 d x) ∨ ∃ p vs xs, x = .ref p ∧ H p = none ∧ H2 = upd H p (.tup vs) ∧ d = .tup xs ∧ Rps T F0 ι0 xs vs) :
    ∃ F', Grow F ι F' ι ∧ RelH T P ι F' s H2 ∧ Rp T F' ι d x := by
  rcases y with ⟨e, r⟩ | ⟨p, vs, xs, e1, e2, e3, e4, e5⟩
  · subst e
    exact ⟨F, Grow.refl _ _, R, r.mono g⟩
  · subst e1 e3 e4
    refine ⟨upd F p (.tup vs), grow_new (R.freeF e2) _, R.new e2 _, ?_⟩
    unfold Rp
    exact ⟨p, vs, rfl, upd_same, e5.mono (g.trans (grow_new (R.freeF e2) _))⟩
theorem den_for {W : WX} {wi : TI} {f : DIt} {g : TG} {ws : List Nat} {t : DTg} {tb : TS} {body : DS} (hi : DenI T W wi f) (hg : DenT T ws g t) (hb : DenS T W tb body) : DenS T W (tFor wi g tb) (sFor f t body) := fun En σ H P ι F δ s R E post => by
  show wi σ H _
  refine dens_then hi R E post fun ds J H1 ι1 F1 s1 g1 R1 E1 w post1 => ?_
  refine for_it w (fun i σ' H' => ∃ ι' F' δ' s', Grow F1 ι1 F' ι' ∧ RelH T P ι' F' s' H' ∧ REnv T F' ι' δ' σ' ∧ PostS T P En W F' ι' (forL t body (ds.drop i) δ' s')) ⟨ι1, F1, δ, s1, Grow.refl _ _, R1, E1, by simpa using post1⟩ ?_ ?_ ?_
  · rintro i σ' H' _ ⟨ι', F', δ', s', g', R', E', _⟩
    exact fun a o h => R'.sub _ _ (g'.1 _ _ h)
  · rintro i x σ' H' H2 hi ⟨ι', F', δ', s', g', R', E', post'⟩ ⟨d, hd, y⟩
    obtain ⟨F2, g2, R2, r2⟩ := item_ok g' R' y
    rw [drop_get hd] at post'
    unfold forL at post'
    cases q : t d δ' with
    | none => rw [q] at post'; exact post'.elim
    | some δ1 =>
      rw [q] at post'
      dsimp only at post'
      refine hg _ _ _ _ _ _ _ _ _ _ _ R2 (E'.mono g2) r2 q fun σ2 E2 _ => ?_
      refine hb _ _ _ _ _ _ _ _ R2 E2 ?_
      cases qb : body δ1 s' with
      | nx δ2 s2 =>
        rw [qb] at post'
        exact fun σ3 H3 ι3 F3 g3 R3 E3 => ⟨ι3, F3, δ2, s2, (g'.trans g2).trans g3, R3, E3, post'.mono (g2.trans g3)⟩
      | ct δ2 s2 =>
        rw [qb] at post'
        exact fun σ3 H3 ι3 F3 g3 R3 E3 => ⟨ι3, F3, δ2, s2, (g'.trans g2).trans g3, R3, E3, post'.mono (g2.trans g3)⟩
      | bk δ2 s2 =>
        rw [qb] at post'
        exact post'.mono g2
      | rt d2 s2 =>
        rw [qb] at post'
        exact post'.mono g2
      | ex c δ2 s2 =>
        rw [qb] at post'
        exact post'.mono g2
      | stuck => rw [qb] at post'; exact post'.elim
  · rintro σ' H' ⟨ι', F', δ', s', g', R', E', post'⟩
    rw [List.drop_length] at post'
    exact post' σ' H' ι' F' (Grow.refl _ _) R' E'
theorem s_for {tg iter : Expr} {body : List Stmt} {pos : Pos} {f : DIt} {ws : List Nat} {t : DTg} {g : DS} (hi : PDi T X tg iter f) (hg : PDg T X tg ws t) (hb : PDb T X body g) (hc : X.calm = true := by rfl) (hs : ∀ x, foldedSetIterable iter X.env x = pure x := by intro _; rfl) : PDs T X (.For tg iter body [] pos) (sFor f t g) := fun pn xe W tk ow => by
  obtain ⟨wi, p1, d1⟩ := hi pn xe W tk
  obtain ⟨g1, p2, d2⟩ := hg pn xe
  obtain ⟨tb, p3, d3⟩ := hb pn xe W tk ow
  exact ⟨_, ps_for (X := X.tr pn xe) ow hc p1 p2 p3 hs, den_for d1 d2 d3⟩
/-! ## while, so many turns at the most -/
def whL (c : DT) (body : DS) : Nat → DS
  | 0, _, _ => .stuck
  | n + 1, δ, s => (c δ s).out δ fun b s1 => match b with
    | false => .nx δ s1
    | true => match body δ s1 with
      | .nx δ2 s2 => whL c body n δ2 s2
      | .ct δ2 s2 => whL c body n δ2 s2
      | .bk δ2 s2 => .nx δ2 s2
      | o => o
def sWh (n : Nat) (c : DT) (body : DS) : DS := whL c body n
theorem den_while {W : WX} {tc : TT} {c : DT} {tb : TS} {body : DS} (n : Nat) (hc : DenG T eqR W tc c) (hb : DenS T W tb body) : DenS T W (tWhile tc tb) (sWh n c body) := fun En σ H P ι F δ s R E post => by
  refine ⟨fun m σ' H' => ∃ ι' F' δ' s', RelH T P ι' F' s' H' ∧ REnv T F' ι' δ' σ' ∧ PostS T P En W F' ι' (whL c body m δ' s'), ⟨n, ι, F, δ, s, R, E, post⟩, ?_⟩
  rintro m σ' H' ⟨ι', F', δ', s', R', E', post'⟩
  cases m with
  | zero => exact post'.elim
  | succ m =>
    unfold whL at post'
    refine dens_then hc R' E' post' fun b b' H1 ι1 F1 s1 g1 R1 E1 eb post1 => ?_
    cases eb
    cases b with
    | false =>
      rw [if_neg Bool.false_ne_true]
      exact post1 _ _ _ _ (Grow.refl _ _) R1 E1
    | true =>
      rw [if_pos rfl]
      refine ⟨fun σ2 H2 => ∃ ι2 F2 δ2 s2, RelH T P ι2 F2 s2 H2 ∧ REnv T F2 ι2 δ2 σ2 ∧ PostS T P En W F2 ι2 (whL c body m δ2 s2), fun σ2 H2 z => ⟨m, Nat.lt_succ_self _, z⟩, ?_⟩
      refine hb _ _ _ _ _ _ _ _ R1 E1 ?_
      dsimp only at post1
      cases qb : body δ' s1 with
      | nx δ2 s2 =>
        rw [qb] at post1
        exact fun σ3 H3 ι3 F3 g3 R3 E3 => ⟨ι3, F3, δ2, s2, R3, E3, post1.mono g3⟩
      | ct δ2 s2 =>
        rw [qb] at post1
        exact fun σ3 H3 ι3 F3 g3 R3 E3 => ⟨ι3, F3, δ2, s2, R3, E3, post1.mono g3⟩
      | bk δ2 s2 => rw [qb] at post1; exact post1
      | rt d2 s2 => rw [qb] at post1; exact post1
      | ex c δ2 s2 => rw [qb] at post1; exact post1
      | stuck => rw [qb] at post1; exact post1.elim
theorem s_while {c : Expr} {body : List Stmt} {pos : Pos} {fc : DT} {g : DS} (n : Nat) (hc : PDt T X c fc) (hb : PDb T X body g) : PDs T X (.While c body [] pos) (sWh n fc g) := fun pn xe W tk ow => by
  obtain ⟨t0, p0, d0⟩ := hc pn xe W tk
  obtain ⟨t1, p1, d1⟩ := hb pn xe W tk ow
  exact ⟨_, ps_while (X := X.tr pn xe) ow p0 p1, den_while n d0 d1⟩
end
end Mp
/-! # MpE -/
namespace Mp
open PySem PySem.Spec L2

/-! ## canonical readings: one reading for all contexts -/
def canE {α β : Type} (T : Tb) (Rl : Hp → List Addr → α → β → Prop) (W : WX) (f : Env → Sto → Res α) : L2.St → Hp → (β → Hp → Prop) → Prop := fun σ H Q =>
  ∃ P ι F δ s, RelH T P ι F s H ∧ REnv T F ι δ σ ∧ Post T P Rl Q (fun c H' => W (.ref (T.ca c)) none σ H') F ι (f δ s)
def canT (T : Tb) (ws : List Nat) (f : DTg) : TG := fun v σ H Q => ∃ P ι F δ δ' s d, RelH T P ι F s H ∧ REnv T F ι δ σ ∧ Rp T F ι d v ∧ f d δ = some δ' ∧ ∀ σ', REnv T F ι δ' σ' → Off ws σ σ' → Q σ' H
section
variable {T : Tb} {X : Cx}
theorem PE.weak {e : Expr} {t t' : TE} (h : PE X e t) (k : ∀ σ H Q, t' σ H Q → t σ H Q) : PE X e t' := ⟨fun pins s σ H Q I q => h.run pins s σ H Q I (k _ _ _ q)⟩
theorem PT.weak {e : Expr} {t t' : TT} (h : PT X e t) (k : ∀ σ H Q, t' σ H Q → t σ H Q) : PT X e t' := ⟨fun pins s σ H Q I q => h.run pins s σ H Q I (k _ _ _ q)⟩
theorem PG.weak {e : Expr} {t t' : TG} (h : PG X e t) (k : ∀ v σ H Q, t' v σ H Q → t v σ H Q) : PG X e t' := ⟨fun pins s σ H v u Q I r q => h.run pins s σ H v u Q I r (k _ _ _ _ q)⟩
theorem DenG.can {α β : Type} {Rl : Hp → List Addr → α → β → Prop} {W : WX} {t : L2.St → Hp → (β → Hp → Prop) → Prop} {f : Env → Sto → Res α} (d : DenG T Rl W t f) {σ : L2.St} {H : Hp} {Q : β → Hp → Prop} (h : canE T Rl W f σ H Q) : t σ H Q := by
  obtain ⟨P, ι, F, δ, s, R, E, post⟩ := h
  exact d _ _ _ _ _ _ _ _ R E post
theorem DenT.can {ws : List Nat} {t : TG} {f : DTg} (d : DenT T ws t f) {v : V} {σ : L2.St} {H : Hp} {Q : L2.St → Hp → Prop} (h : canT T ws f v σ H Q) : t v σ H Q := by
  obtain ⟨P, ι, F, δ, δ', s, x, R, E, r, e, k⟩ := h
  exact d _ _ _ _ _ _ _ _ _ _ _ R E r e k
/-! ## list comprehensions -/
/-- a clause's tests -/
def PDts (T : Tb) (X : Cx) (ifs : List Expr) (f : DT) : Prop := ∃ t, PTs X ifs t ∧ DenG T eqR (fun _ _ _ _ => False) t f
def cYes : DT := fun _ s => .ok true s
def W0 : WX := fun _ _ _ _ => False
theorem ts_nil : PDts T X [] cYes := ⟨_, pts_nil, fun _ _ _ _ _ _ _ _ R _ post => post.here R rfl⟩
theorem ts_one {c : Expr} {f : DT} (h : PDt T X c f) : PDts T X [c] f := by
  obtain ⟨t, p, d⟩ := h X.pn X.xe (fun _ _ _ _ => False) takes0
  exact ⟨t, pts_one p, d⟩
theorem PTs.weak {e : List Expr} {t t' : TT} (h : PTs X e t) (k : ∀ σ H Q, t' σ H Q → t σ H Q) : PTs X e t' := ⟨fun pins s σ H Q I q => h.run pins s σ H Q I (k _ _ _ q)⟩
def wipeE (δ : Env) : List Nat → Env
  | [] => δ
  | v :: vs => (wipeE δ vs).set v none
theorem REnv.wipe {F : Hp} {ι : List Addr} {δ : Env} {σ : L2.St} (E : REnv T F ι δ σ) : ∀ vs : List Nat, REnv T F ι (wipeE δ vs) (L2.wipe σ vs)
  | [] => E
  | v :: vs => (E.wipe vs).unset v
def lcL (t : DTg) (c : DT) (e : DE) (δ : Env) : List D → List D → Sto → Res D
  | [], acc, s => .ok (.lst acc) s
  | d :: r, acc, s => match t d δ with
    | none => .stuck
    | some δ1 => match c δ1 s with
      | .ok true s2 => match e δ1 s2 with
        | .ok y s3 => if acc.length < lim then lcL t c e δ r (acc ++ [y]) s3 else .stuck
        | _ => .stuck
      | .ok false s2 => lcL t c e δ r acc s2
      | _ => .stuck
def dLc (it : DIt) (t : DTg) (c : DT) (e : DE) (vs : List Nat) : DE := fun δ s => (it δ s).bind fun ds s1 => lcL t c e (wipeE δ vs) ds [] s1
abbrev Blk (X : Cx) (scope : Scope) (s : Shared) (H : Hp) (C : Addr) (cl : List (Str × Addr)) (fp : List Addr) : Cx := X.blk s H scope (compEnvC scope cl C X.env) fp
theorem den_lc {W : WX} {wi : TI} {it : DIt} {ws vs : List Nat} {t : DTg} {c : DT} {e : DE} (hi : DenI T W wi it) (hs : ∀ i ∈ ws, i ∈ vs) :
    DenG T (Rp T) W (tLc wi (canT T ws t) (canE T eqR W0 c) (canE T (Rp T) W0 e) vs) (dLc it t c e vs) := fun σ H P ι F δ s Q R E post => by
  show wi σ H _
  refine den_then hi R E post fun ds J H1 ι1 F1 s1 g1 R1 E1 w post1 => fun L hL => ?_
  have hPL : P L = none := R1.freeP hL
  refine lc_it w (fun i H' => ∃ ι' F' s' acc vacc, Grow F1 ι1 F' ι' ∧ RelH T (upd P L (.lst vacc)) ι' F' s' H' ∧ Rps T F' ι' acc vacc ∧
      Post T P (Rp T) Q (fun c H' => W (.ref (T.ca c)) none σ H') F' ι' (lcL t c e (wipeE δ vs) (ds.drop i) acc s'))
    ⟨ι1, F1, s1, [], [], Grow.refl _ _, R1.newP hL _, .nil, by simpa using post1⟩ ?_ ?_ ?_
  · rintro i H' _ ⟨ι', F', s', acc, vacc, g', R', _, _⟩
    exact fun a o h => R'.sub _ _ (g'.1 _ _ h)
  · rintro i x H' H2 hi' ⟨ι', F', s', acc, vacc, g', R', ra, post'⟩ ⟨d, hd, y⟩
    obtain ⟨F2, g2, R2, r2⟩ := item_ok g' R' y
    rw [drop_get hd] at post'
    unfold lcL at post'
    have Ew : REnv T F2 ι' (wipeE δ vs) (L2.wipe σ vs) := ((E1.mono g').mono g2).wipe vs
    cases q : t d (wipeE δ vs) with
    | none => rw [q] at post'; exact post'.elim
    | some δ1 =>
      rw [q] at post'
      dsimp only at post'
      refine ⟨_, ι', F2, _, δ1, s', d, R2, Ew, r2, q, fun σ2 E2 o2 => ⟨o2.wipe hs |>.trans ?_, ?_⟩⟩
      · refine List.ext_getElem? fun j => ?_
        rw [wipe_at, wipe_at, wipe_length]
        by_cases c : j ∈ vs ∧ j < σ.length
        · rw [if_pos c, if_pos c]
        · rw [if_neg c, if_neg c]
      · refine ⟨_, ι', F2, δ1, s', R2, E2, ?_⟩
        cases qc : c δ1 s' with
        | stuck => rw [qc] at post'; exact post'.elim
        | exc k s2 => rw [qc] at post'; exact post'.elim
        | ok b s2 =>
          rw [qc] at post'
          intro b' H3 ι3 F3 g3 R3 eb
          cases eb
          cases b with
          | false =>
            rw [if_neg Bool.false_ne_true]
            exact ⟨ι3, F3, s2, acc, vacc, (g'.trans g2).trans g3, R3, ra.mono (g2.trans g3), post'.mono (g2.trans g3)⟩
          | true =>
            rw [if_pos rfl]
            refine ⟨_, ι3, F3, δ1, s2, R3, E2.mono g3, ?_⟩
            dsimp only at post'
            cases qe : e δ1 s2 with
            | stuck => rw [qe] at post'; exact post'.elim
            | exc k s3 => rw [qe] at post'; exact post'.elim
            | ok z s3 =>
              rw [qe] at post'
              intro v H4 ι4 F4 g4 R4 rv
              dsimp only at post'
              have ra' := ra.mono ((g2.trans g3).trans g4)
              split at post'
              · rename_i hl
                refine ⟨vacc, R4.pro _ _ upd_same, by rw [← ra.len]; exact lim_lt (Nat.le_of_lt hl), ι4, F4, s3, acc ++ [z], vacc ++ [v], ((g'.trans g2).trans g3).trans g4, ?_, ra'.app (.cons rv .nil), post'.mono ((g2.trans g3).trans g4)⟩
                have := R4.setP (p := L) upd_same (.lst (vacc ++ [v]))
                rw [upd_upd] at this
                exact this
              · exact post'.elim
  · rintro H' ⟨ι', F', s', acc, vacc, g', R', ra, post'⟩
    rw [List.drop_length] at post'
    have R2 := R'.thaw hPL
    have gr : Grow F' ι' (upd F' L (.lst vacc)) ι' := grow_new (R'.dis L _ upd_same) _
    refine post' (.ref L) H' ι' _ gr R2 ?_
    unfold Rp
    exact ⟨L, vacc, rfl, upd_same, ra.mono gr⟩
theorem d_lc {elt tg iter : Expr} {ifs : List Expr} {scope : Scope} {own : List (Str × Nat)} {pos : Pos} {it : DIt} {ws : List Nat} {t : DTg} {c : DT} {e : DE} (hN : X.N.Nodup) (hi : PDi T X tg iter it) (ok : BlkOk X.N X.env.scope scope own)
    (hg : ∀ (s : Shared) (H : Hp) (C : Addr) (cl : List (Str × Addr)) (fp : List Addr), PDg T (Blk X scope s H C cl fp) tg ws t) (ht : ∀ (s : Shared) (H : Hp) (C : Addr) (cl : List (Str × Addr)) (fp : List Addr), PDts T (Blk X scope s H C cl fp) ifs c)
    (he : ∀ (s : Shared) (H : Hp) (C : Addr) (cl : List (Str × Addr)) (fp : List Addr), PDe T (Blk X scope s H C cl fp) elt e) (hs : ∀ i ∈ ws, i ∈ own.map (·.2) := by decide) (hf : ∀ x, foldedSetIterable iter X.env x = pure x := by intro _; rfl) (hc : X.calm = true := by rfl) :
    PDe T X (.ListComp elt [⟨tg, iter, ifs, 0⟩] scope pos) (dLc it t c e (own.map (·.2))) := fun pn xe W tk => by
  obtain ⟨wi, p1, d1⟩ := hi pn xe W tk
  refine ⟨_, pe_lc (X := X.tr pn xe) (own := own) hc hN p1 ok (g := canT T ws t) (tt := canE T eqR W0 c) (te := canE T (Rp T) W0 e) (fun s H C cl fp => ?_) (fun s H C cl fp => ?_) (fun s H C cl fp => ?_) hf, den_lc d1 hs⟩
  · obtain ⟨g, p, d⟩ := hg s H C cl fp [] (fun _ _ => False)
    exact PG.weak p fun v σ H Q q => d.can q
  · obtain ⟨g, p, d⟩ := ht s H C cl fp
    exact PTs.weak p fun σ H Q q => d.can q
  · obtain ⟨g, p, d⟩ := he s H C cl fp [] (fun _ _ => False) W0 takes0
    exact PE.weak p fun σ H Q q => d.can q
theorem s_setLc {elt tg iter : Expr} {ifs : List Expr} {scope : Scope} {own : List (Str × Nat)} {pos spos py : Pos} {y : Str} {it : DIt} {ws : List Nat} {t : DTg} {c : DT} {e : DE} (i : Nat) (hN : X.N.Nodup) (hi : PDi T X tg iter it) (ok : BlkOk X.N X.env.scope scope own)
    (hg : ∀ (s : Shared) (H : Hp) (C : Addr) (cl : List (Str × Addr)) (fp : List Addr), PDg T (Blk X scope s H C cl fp) tg ws t) (ht : ∀ (s : Shared) (H : Hp) (C : Addr) (cl : List (Str × Addr)) (fp : List Addr), PDts T (Blk X scope s H C cl fp) ifs c)
    (he : ∀ (s : Shared) (H : Hp) (C : Addr) (cl : List (Str × Addr)) (fp : List Addr), PDe T (Blk X scope s H C cl fp) elt e) (hsw : swapsWith (.ListComp elt [⟨tg, iter, ifs, 0⟩] scope pos) (some (.Name y py)) spos.line X.env = pure true)
    (hy : X.N[i]? = some y := by rfl) (hyl : X.env.scope.names.lookup y = some .local := by rfl) (hs : ∀ i ∈ ws, i ∈ own.map (·.2) := by decide) (hf : ∀ x, foldedSetIterable iter X.env x = pure x := by intro _; rfl) (hc : X.calm = true := by rfl) :
    PDs T X (.Assign [.Name y py] (.ListComp elt [⟨tg, iter, ifs, 0⟩] scope pos) spos) (sSet i (dLc it t c e (own.map (·.2)))) := fun pn xe W tk _ => by
  obtain ⟨wi, p1, d1⟩ := hi pn xe W tk
  refine ⟨_, ps_setLc (X := X.tr pn xe) (i := i) (own := own) hc hN hy hyl hsw p1 ok (g := canT T ws t) (tt := canE T eqR W0 c) (te := canE T (Rp T) W0 e) (fun s H C cl fp => ?_) (fun s H C cl fp => ?_) (fun s H C cl fp => ?_) hf, fun En σ H P ι F δ s R E post => ?_⟩
  · obtain ⟨g, p, d⟩ := hg s H C cl fp [] (fun _ _ => False)
    exact PG.weak p fun v σ H Q q => d.can q
  · obtain ⟨g, p, d⟩ := ht s H C cl fp
    exact PTs.weak p fun σ H Q q => d.can q
  · obtain ⟨g, p, d⟩ := he s H C cl fp [] (fun _ _ => False) W0 takes0
    exact PE.weak p fun σ H Q q => d.can q
  · have dl : DenG T (Rp T) W _ _ := den_lc (T := T) (c := c) (e := e) (t := t) d1 hs
    show tLc wi (canT T ws t) (canE T eqR W0 c) (canE T (Rp T) W0 e) (own.map (·.2)) σ H _
    refine dens_then (t := tLc wi (canT T ws t) (canE T eqR W0 c) (canE T (Rp T) W0 e) (own.map (·.2))) dl R E post fun x v H1 ι1 F1 s1 g R1 E1 r1 post1 => ?_
    exact post1 _ H1 ι1 F1 (Grow.refl _ _) R1 (E1.set r1 i)
end

/-! ## functions -/
mutual
def below (n : Nat) : D → Bool
  | .loc m => decide (m < n)
  | .tup xs => belows n xs
  | .lst xs => belows n xs
  | .dct _ xs => belows n xs
  | .dcL _ xs => belows n xs
  | .dcT _ xs => belows n xs
  | .obj _ _ xs => belows n xs
  | .fn _ _ _ _ ds => belows n ds
  | _ => true
def belows (n : Nat) : List D → Bool
  | [] => true
  | x :: xs => below n x && belows n xs
end
def Cell.below (n : Nat) : Cell → Bool
  | .dead => true
  | .lst xs => belows n xs
  | .dct _ xs => belows n xs
  | .dcT _ xs => belows n xs
  | .obj _ _ xs => belows n xs
  | .tbl _ => true
/-- what a call leaves: its own cells go -/
def cut (n : Nat) (d : D) (s : Sto) : Res D := if s.length = n then .ok d s else if (decide (n ≤ s.length) && (below n d && (s.take n).all (Cell.below n))) = true then .ok d (s.take n) else .ok d s
def cutX (n : Nat) (c : Nat) (s : Sto) : Res D := if s.length = n then .exc c s else if (decide (n ≤ s.length) && (s.take n).all (Cell.below n)) = true then .exc c (s.take n) else .stuck
section
variable {T : Tb}
mutual
theorem Rp.take {F : Hp} {ι : List Addr} {n : Nat} : ∀ {d : D} {v : V}, Rp T F ι d v → below n d = true → Rp T F (ι.take n) d v
  | .non, _, h, _ => by unfold Rp at h ⊢; exact h
  | .bl _, _, h, _ => by unfold Rp at h ⊢; exact h
  | .int _, _, h, _ => by unfold Rp at h ⊢; exact h
  | .str _, _, h, _ => by unfold Rp at h ⊢; exact h
  | .tup xs, v, h, b => by
    unfold Rp at h ⊢
    obtain ⟨a, vs, e, q, r⟩ := h
    exact ⟨a, vs, e, q, Rps.takeI r b⟩
  | .lst xs, v, h, b => by
    unfold Rp at h ⊢
    obtain ⟨a, vs, e, q, r⟩ := h
    exact ⟨a, vs, e, q, Rps.takeI r b⟩
  | .scr ns, v, h, _ => by unfold Rp at h ⊢; exact h
  | .dct ks xs, v, h, b => by
    unfold Rp at h ⊢
    obtain ⟨a, kvs, e, q, k, r⟩ := h
    exact ⟨a, kvs, e, q, k, Rps.takeI r b⟩
  | .dcL ks xs, v, h, b => by
    unfold Rp at h ⊢
    obtain ⟨a, o, kvs, e, q, k, r⟩ := h
    exact ⟨a, o, kvs, e, q, k, Rps.takeI r b⟩
  | .dcT ks xs, v, h, b => by
    unfold Rp at h ⊢
    obtain ⟨a, o, kvs, e, q, qk, k, r⟩ := h
    exact ⟨a, o, kvs, e, q, qk, k, Rps.takeI r b⟩
  | .obj c ns xs, v, h, b => by
    unfold Rp at h ⊢
    obtain ⟨a, dx, fs, e, q, k, r⟩ := h
    exact ⟨a, dx, fs, e, q, k, Rps.takeI r b⟩
  | .loc m, v, h, b => by
    unfold Rp at h ⊢
    obtain ⟨a, q, e⟩ := h
    have hm : m < n := of_decide_eq_true b
    exact ⟨a, by rw [List.getElem?_take_of_lt hm]; exact q, e⟩
  | .exc c, v, h, _ => by unfold Rp at h ⊢; exact h
  | .cls _, _, h, _ => by unfold Rp at h ⊢; exact h
  | .ty _, _, h, _ => by unfold Rp at h ⊢; exact h
  | .fn _ _ _ vs ds, _, h, b => by
    unfold Rp at h ⊢
    exact ⟨h.1, h.2.1, Rps.takeI h.2.2 b⟩
theorem Rps.takeI {F : Hp} {ι : List Addr} {n : Nat} : ∀ {ds : List D} {vs : List V}, Rps T F ι ds vs → belows n ds = true → Rps T F (ι.take n) ds vs
  | [], _, h, _ => by unfold Rps at h ⊢; exact h
  | x :: xs, vs, h, b => by
    unfold Rps at h ⊢
    obtain ⟨v, r, e, p, q⟩ := h
    have b' : (below n x && belows n xs) = true := b
    rw [Bool.and_eq_true] at b'
    exact ⟨v, r, e, Rp.take p b'.1, Rps.takeI q b'.2⟩
end
theorem RelH.cut {P : Hp} {ι : List Addr} {F : Hp} {s : Sto} {H : Hp} {n : Nat} (R : RelH T P ι F s H) (hb : (s.take n).all (Cell.below n) = true) : RelH T P (ι.take n) F (s.take n) H := by
  have lt : ∀ {m : Nat} {c : Cell}, (s.take n)[m]? = some c → m < n ∧ s[m]? = some c := fun {m c} h => by
    have h1 := (List.getElem?_eq_some_iff.mp h).1
    rw [List.length_take] at h1
    have h2 : m < n := by omega
    exact ⟨h2, by rw [List.getElem?_take_of_lt h2] at h; exact h⟩
  have ltI : ∀ {m : Nat} {a : Addr}, (ι.take n)[m]? = some a → ι[m]? = some a := fun {m a} h => by
    have h1 := (List.getElem?_eq_some_iff.mp h).1
    rw [List.length_take] at h1
    rw [List.getElem?_take_of_lt (by omega)] at h
    exact h
  refine ⟨R.sub, R.pro, R.dis, by rw [List.length_take, List.length_take, R.len], fun m c a h1 h2 => ?_, fun m c a h1 l h2 => R.npr m c a (lt h1).2 l (ltI h2), fun m k c c' a h1 h2 l1 l2 h3 h4 => R.nod m k c c' a (lt h1).2 (lt h2).2 l1 l2 (ltI h3) (ltI h4)⟩
  have hc := R.cell m c a (lt h1).2 (ltI h2)
  have hbc : c.below n = true := List.all_eq_true.mp hb c (List.mem_of_getElem? h1)
  cases c with
  | dead => trivial
  | lst xs =>
    obtain ⟨e1, vs, e2, e3⟩ := hc
    exact ⟨e1, vs, e2, e3.takeI hbc⟩
  | dct ks xs =>
    obtain ⟨e1, vs, e2, e3, e4⟩ := hc
    exact ⟨e1, vs, e2, e3, e4.takeI hbc⟩
  | dcT ks xs =>
    obtain ⟨e1, vs, e2, ek, e3, e4⟩ := hc
    exact ⟨e1, vs, e2, ek, e3, e4.takeI hbc⟩
  | obj k ns xs =>
    obtain ⟨e1, dx, vs, e2, e3, e4⟩ := hc
    exact ⟨e1, dx, vs, e2, e3, e4.takeI hbc⟩
  | tbl k => exact hc
/-- the promise of a def that does what φ tells -/
def spD (T : Tb) (n : Nat) (φ : List D → Sto → Res D) : Sp := fun vs H Q E => vs.length = n ∧ ∃ P ι F s ds, RelH T P ι F s H ∧ Rps T F ι ds vs ∧ Post T P (Rp T) Q (fun c H' => E (.ref (T.ca c)) none H') F ι (φ ds s)
def finO (n : Nat) : Out → Res D
  | .rt d s => cut n d s
  | .nx _ s => cut n .non s
  | .ex c _ s => cutX n c s
  | _ => .stuck
/-- a def: N names, n of them parameters -/
def mkF (N n : Nat) (g : DS) : List D → Sto → Res D := fun ds s => if ds.length = n then finO s.length (g (ds.map some ++ List.replicate (N - n) none) s) else .stuck
theorem takeG {F F' : Hp} {ι ι' : List Addr} {n : Nat} (g : Grow F ι F' ι') (h : ι.length = n) : Grow F ι F' (ι'.take n) := by
  obtain ⟨g1, m, rfl⟩ := g
  refine ⟨g1, [], ?_⟩
  rw [List.append_nil, List.take_append_of_le_length (by omega), List.take_of_length_le (by omega)]
theorem fin_ok {P : Hp} {ι : List Addr} {F : Hp} {s : Sto} {H : Hp} {Q : VK} {E : XK} {W : WX} {o : Out} (hW : ∀ c d σ H, E c d H → W c d σ H) (R : RelH T P ι F s H) (post : Post T P (Rp T) Q (fun c H' => E (.ref (T.ca c)) none H') F ι (finO s.length o)) :
    PostS T P { nx := fun _ H' => Q .non H', rt := Q } W F ι o := by
  have one : ∀ d s', Post T P (Rp T) Q (fun c H' => E (.ref (T.ca c)) none H') F ι (cut s.length d s') → ∀ v H' ι' F', Grow F ι F' ι' → RelH T P ι' F' s' H' → Rp T F' ι' d v → Q v H' := by
    intro d s' p v H' ι' F' g R' r
    unfold Mp.cut at p
    split at p
    · exact p v H' ι' F' g R' r
    · split at p
      · rename_i hb
        simp only [Bool.and_eq_true, decide_eq_true_eq] at hb
        exact p v H' _ F' (takeG g R.len) (R'.cut hb.2.2) (r.take hb.2.1)
      · exact p v H' ι' F' g R' r
  cases o with
  | rt d s' => exact one d s' post
  | nx δ s' => exact fun σ' H' ι' F' g R' _ => one .non s' post .non H' ι' F' g R' (by unfold Rp; rfl)
  | bk δ s' => exact post.elim
  | ct δ s' => exact post.elim
  | stuck => exact post.elim
  | ex c δ s' =>
    intro σ' H' ι' F' g R' _
    refine hW _ _ _ _ ?_
    have post' : Post T P (Rp T) Q (fun c H' => E (.ref (T.ca c)) none H') F ι (cutX s.length c s') := post
    unfold cutX at post'
    split at post'
    · exact post' H' ι' F' g R'
    · split at post'
      · rename_i hb
        simp only [Bool.and_eq_true, decide_eq_true_eq] at hb
        exact post' H' _ F' (takeG g R.len) (R'.cut hb.2)
      · exact post'.elim
theorem start_env {F : Hp} {ι : List Addr} {N : List Str} {ds : List D} {vs : List V} {n : Nat} (r : Rps T F ι ds vs) (hn : ds.length = n) : REnv T F ι (ds.map some ++ List.replicate (N.length - n) none) (L2.start N vs) := by
  have hl := r.len
  unfold L2.start
  refine ⟨by simp [hl]; omega, fun i d h => ?_⟩
  by_cases hi : i < ds.length
  · rw [List.getElem?_append_left (by simpa using hi), List.getElem?_map] at h
    cases e : ds[i]? with
    | none => rw [e] at h; cases h
    | some d' =>
      rw [e] at h
      cases h
      obtain ⟨v, h1, h2⟩ := r.get e
      refine ⟨v, ?_, h2⟩
      rw [List.getElem?_append_left (by simp; omega), List.getElem?_map, h1]
      rfl
  · rw [List.getElem?_append_right (by simpa using hi), List.getElem?_replicate] at h
    split at h <;> cases h
section
variable {P : Program} {w : World} {mg : Str → Option Value} {base : Heap}
theorem fn_d {x qual : Str} {params : Arguments} {body : List Stmt} {scope : Scope} {dvs : List V} {kws : List (Str × V)} {f : Addr} {fd : FuncData} {N ps : List Str} {k : Nat} {g : DS} (F : FunD T.K x qual params body scope dvs kws f fd) (Sc : FnScope N ps scope)
    (h : ∀ (cdv : Value) (A : Around) (outer : List PySem.Env) (s : Shared) (H : Hp) (E : XK), Room k (A.deeper (PyProof.Rows.envOfC qual scope s.heap.objs.size f cdv)) → PDb T (cxOf (L2.CX P w) P w T.K mg base N qual scope f cdv A outer s H E) body g) :
    FnOk P w T.K mg base (L2.CX P w) (k + 1) f fd ps (spD T ps.length (mkF N.length ps.length g)) := by
  refine F.ok Sc (fun vs H Q E h => h.1) fun cdv A outer s H vs Q E hr sp => ?_
  obtain ⟨hl, P0, ι, F0, st, ds, R, r, post⟩ := sp
  have tk : Takes (cxOf (L2.CX P w) P w T.K mg base N qual scope f cdv A outer s H E) (fun cls d _ H => E cls d H) := takes_of rfl rfl rfl rfl
  obtain ⟨t, p, d⟩ := h cdv A outer s H E hr _ _ _ tk (passes_of rfl)
  refine ⟨t, p, ?_⟩
  unfold mkF at post
  split at post
  · rename_i hd
    exact d _ _ _ _ _ _ _ _ R (start_env r hd) (fin_ok (fun _ _ _ _ h => h) R post)
  · exact post.elim
/-- a def that may be called by its name -/
structure Cl (T : Tb) (P : Program) (w : World) (mg : Str → Option Value) (base : Heap) (x : Str) (k n : Nat) (φ : List D → Sto → Res D) : Prop where
  ex : ∃ (f : Addr) (fd : FuncData) (ps : List Str), mg x = some (.ref f) ∧ PySem.W.keepIn T.K (.ref f) = true ∧ Binds T.K fd ps [] ∧ FnOk P w T.K mg base (L2.CX P w) k f fd ps (spD T n φ)
theorem Cl.up {x : Str} {j k n : Nat} {φ : List D → Sto → Res D} (c : Cl T P w mg base x j n φ) (h : j ≤ k) : Cl T P w mg base x k n φ := by
  obtain ⟨f, fd, ps, h1, h2, h3, h4⟩ := c.ex
  exact ⟨f, fd, ps, h1, h2, h3, h4.mono h⟩
end
variable {X : Cx}
def dCall (φ : List D → Sto → Res D) (fa : DA) : DE := fun δ s => (fa δ s).bind fun ds s1 => φ ds s1
theorem d_call {x : Str} {p pos : Pos} {e : Expr} {es : List Expr} {k j n : Nat} {φ : List D → Sto → Res D} {fa : DA} (c : Cl T X.prog X.w X.mg X.base x k n φ) (ha : PDa T X (e :: es) fa) (hr : Room j X.A) (hk : k ≤ j := by decide) (hn : (e :: es).length = n := by rfl) (hg : Gl X x := by rfl) (hK : X.K = T.K := by rfl)
    (hdb : (x == ("__debug__" : Str)) = false := by decide) (he : starEach (e :: es) X.env = (false, eval e X.env) :: starEach es X.env := by rfl) (hpl : (backTo pos (starEach es X.env)).any (·.1) = false := by rfl) :
    PDe T X (.Call (.Name x p) (e :: es) [] pos) (dCall φ fa) := fun pn xe W tk => by
  obtain ⟨t1, p1, d1⟩ := ha pn xe W tk
  obtain ⟨f, fd, ps, h1, h2, h3, h4⟩ := c.ex
  rw [← hK] at h2 h3 h4
  refine ⟨_, pe_callS (X := X.tr pn xe) h4 (hr.mono hk) hg h1 h2 h3 (fun σ => passAt tk σ) p1 hdb he hpl, fun σ H P ι F δ s Q R E post => ?_⟩
  show t1 σ H _
  refine den_then d1 R E post fun ds vs H1 ι1 F1 s1 g R1 E1 r1 post1 => ?_
  exact ⟨r1.2.trans hn, P, ι1, F1, s1, ds, R1, r1.1, post1⟩
end
end Mp
/-! # MpF -/
namespace Mp
open PySem PySem.Spec L2
/-! ## built-ins called by name -/
abbrev DB := List D → Sto → Res D
def dBi (op : DB) (fa : DA) : DE := fun δ s => (fa δ s).bind fun ds s1 => op ds s1
def DenB (T : Tb) (r : List V → Hp → VK → Prop) (op : DB) : Prop := ∀ ds vs H P ι F s Q E, RelH T P ι F s H → Rps T F ι ds vs → Post T P (Rp T) Q E F ι (op ds s) → r vs H Q
section
variable {T : Tb} {X : Cx}
theorem den_bi {W : WX} {r : List V → Hp → VK → Prop} {op : DB} {n : Nat} {t : TA} {fa : DA} (hb : DenB T r op) (d : DenG T (RpsN T n) W t fa) : DenG T (Rp T) W (tCB r t) (dBi op fa) := fun σ H P ι F δ s Q R E post => by
  show t σ H _
  refine den_then d R E post fun ds vs H1 ι1 F1 s1 g R1 E1 r1 post1 => ?_
  exact hb _ _ _ _ _ _ _ _ _ R1 r1.1 post1
theorem d_callB {x : Str} {p pos : Pos} {e : Expr} {es : List Expr} {id : String} {r : List V → Hp → VK → Prop} {op : DB} {fa : DA} (hc : ∀ pn xe, CallR (X.tr pn xe) (.builtin id) r) (hb : DenB T r op) (hm : X.mg x = none) (hv : bootBuiltins x = some (.builtin id)) (ha : PDa T X (e :: es) fa)
    (hg : Gl X x := by rfl) (hn : x ≠ "__name__" := by decide) (hdb : (x == ("__debug__" : Str)) = false := by decide)
    (he : starEach (e :: es) X.env = (false, eval e X.env) :: starEach es X.env := by rfl) (hpl : (backTo pos (starEach es X.env)).any (·.1) = false := by rfl) : PDe T X (.Call (.Name x p) (e :: es) [] pos) (dBi op fa) := fun pn xe W tk => by
  obtain ⟨t1, p1, d1⟩ := ha pn xe W tk
  exact ⟨_, pe_callB (X := X.tr pn xe) (hc pn xe) hg hm hv p1 hn hdb he hpl, den_bi hb d1⟩
theorem d_callT {x : Str} {p pos : Pos} {e : Expr} {es : List Expr} {id : String} {r : List V → Hp → VK → Prop} {op : DB} {fa : DA} (hc : ∀ pn xe, CallR (X.tr pn xe) (.type id) r) (hb : DenB T r op) (hm : X.mg x = none) (hv : bootBuiltins x = some (.type id)) (ha : PDa T X (e :: es) fa)
    (hg : Gl X x := by rfl) (hn : x ≠ "__name__" := by decide) (hdb : (x == ("__debug__" : Str)) = false := by decide)
    (he : starEach (e :: es) X.env = (false, eval e X.env) :: starEach es X.env := by rfl) (hpl : (backTo pos (starEach es X.env)).any (·.1) = false := by rfl) : PDe T X (.Call (.Name x p) (e :: es) [] pos) (dBi op fa) := fun pn xe W tk => by
  obtain ⟨t1, p1, d1⟩ := ha pn xe W tk
  exact ⟨_, pe_callTy (X := X.tr pn xe) (hc pn xe) hg hm hv p1 hn hdb he hpl, den_bi hb d1⟩
/-! ### len -/
def bLen : DB
  | [.str z], s => if z.length ≤ lim then .ok (.int z.length) s else .stuck
  | [x], s => match (lqOf s x).or (tpOf x) with
    | some xs => .ok (.int xs.length) s
    | none => .stuck
  | _, _ => .stuck
def rLen (K : PySem.W.Frag) : List V → Hp → VK → Prop := fun xs H Q => ∃ x n, xs = [x] ∧ LenV K x H n ∧ Q (.int n) H
theorem db_len : DenB T (rLen T.K) bLen := by
  intro ds vs H P ι F s Q E R r post
  unfold bLen at post
  split at post
  · obtain ⟨v, rfl, h1⟩ := rps1 r
    unfold Rp at h1
    subst h1
    split at post
    · rename_i hl
      refine ⟨_, _, rfl, ⟨by rw [S_len]; exact lim_le hl, rfl⟩, ?_⟩
      rw [S_len]
      exact post.here R (by unfold Rp; rfl)
    · exact post.elim
  · obtain ⟨v, rfl, h1⟩ := rps1 r
    split at post
    · rename_i xs h
      obtain ⟨a, us, rfl, h2, h3⟩ := lqtp_of R h1 h
      refine ⟨_, us.length, rfl, ?_, ?_⟩
      · rcases h2 with h2 | h2
        · exact .inl ⟨us, h2, rfl⟩
        · exact .inr ⟨us, h2, rfl⟩
      · rw [← h3.len]
        exact post.here R (by unfold Rp; rfl)
    · exact post.elim
  · exact post.elim
/-! ### any, all of truth values -/
def boolsOf : List D → Option (List Bool)
  | [] => some []
  | .bl b :: r => (boolsOf r).map (b :: ·)
  | _ => none
theorem bools_ok {F : Hp} {ι : List Addr} : ∀ {ds : List D} {vs : List V} {bs : List Bool}, Rps T F ι ds vs → boolsOf ds = some bs → vs = bs.map V.bl
  | [], vs, bs, r, e => by unfold Rps at r; subst r; cases e; rfl
  | d :: ds, vs, bs, r, e => by
    unfold Rps at r
    obtain ⟨v, us, rfl, h1, h2⟩ := r
    cases d with
    | bl b =>
      have e' : (boolsOf ds).map (b :: ·) = some bs := e
      cases q : boolsOf ds with
      | none => rw [q] at e'; cases e'
      | some cs =>
        rw [q] at e'
        cases e'
        unfold Rp at h1
        rw [h1, bools_ok h2 q]
        rfl
    | _ => cases e
def bAnyAll (f : List Bool → Bool) : DB
  | [x], s => match lqOf s x with
    | some xs => match boolsOf xs with
      | some bs => .ok (.bl (f bs)) s
      | none => .stuck
    | none => .stuck
  | _, _ => .stuck
abbrev bAny : DB := bAnyAll (·.any id)
abbrev bAll : DB := bAnyAll (·.all id)
theorem db_any : DenB T (rAny T.K) bAny := by
  intro ds vs H P ι F s Q E R r post
  unfold bAny bAnyAll at post
  split at post
  · obtain ⟨v, rfl, h1⟩ := rps1 r
    split at post
    · rename_i xs h
      split at post
      · rename_i bs hb
        obtain ⟨a, us, rfl, h2, h3⟩ := lq_of R h1 h
        rw [bools_ok h3 hb] at h2
        exact ⟨a, bs, rfl, h2, post.here R (by unfold Rp; rfl)⟩
      · exact post.elim
    · exact post.elim
  · exact post.elim
theorem db_all : DenB T (rAll T.K) bAll := by
  intro ds vs H P ι F s Q E R r post
  unfold bAll bAnyAll at post
  split at post
  · obtain ⟨v, rfl, h1⟩ := rps1 r
    split at post
    · rename_i xs h
      split at post
      · rename_i bs hb
        obtain ⟨a, us, rfl, h2, h3⟩ := lq_of R h1 h
        rw [bools_ok h3 hb] at h2
        exact ⟨a, bs, rfl, h2, post.here R (by unfold Rp; rfl)⟩
      · exact post.elim
    · exact post.elim
  · exact post.elim
/-! ### max, min of two -/
def b2I (g : Int → Int → Int) : DB
  | [.int a, .int b], s => .ok (.int (g a b)) s
  | _, _ => .stuck
abbrev bMax2 : DB := b2I fun i j => if j > i then j else i
abbrev bMin2 : DB := b2I fun i j => if j < i then j else i
theorem db_2I {g : Int → Int → Int} : DenB T (fun xs H Q => ∃ i j, xs = [.int i, .int j] ∧ Q (.int (g i j)) H) (b2I g) := by
  intro ds vs H P ι F s Q E R r post
  unfold b2I at post
  split at post
  · obtain ⟨v, u, rfl, h1, h2⟩ := rps2 r
    unfold Rp at h1 h2
    exact ⟨_, _, by rw [h1, h2], post.here R (by unfold Rp; rfl)⟩
  · exact post.elim
/-! ### isinstance -/
def tyOf (s : Sto) : D → Option String
  | .non => some "NoneType"
  | .bl _ => some "bool"
  | .int _ => some "int"
  | .str _ => some "str"
  | .lst _ => some "list"
  | .tup _ => some "tuple"
  | .loc n => match s[n]? with
    | some (.lst _) => some "list"
    | some (.dct _ _) => some "dict"
    | _ => none
  | .dct _ _ => some "dict"
  | _ => none
theorem ty_ok {P : Hp} {ι : List Addr} {F : Hp} {s : Sto} {H : Hp} (R : RelH T P ι F s H) {d : D} {v : V} {t : String} (r : Rp T F ι d v) (h : tyOf s d = some t) : TyX T.K H v (.type t) := by
  cases d with
  | non => unfold Rp at r; subst r; cases h; exact .base .non
  | bl b => unfold Rp at r; subst r; cases h; exact .base (.bl b)
  | int b => unfold Rp at r; subst r; cases h; exact .base (.int b)
  | str b => unfold Rp at r; subst r; cases h; exact .base (.str _)
  | lst xs => unfold Rp at r; obtain ⟨a, vs, rfl, e, _⟩ := r; cases h; exact .base (.lst (R.sub _ _ e))
  | tup xs => unfold Rp at r; obtain ⟨a, vs, rfl, e, _⟩ := r; cases h; exact .base (.tup (R.sub _ _ e))
  | dct ks xs =>
    unfold Rp at r
    obtain ⟨a, kvs, rfl, e, _⟩ := r
    cases h
    rcases e with e | ⟨o, e⟩
    · exact .base (.dK (R.sub _ _ e))
    · exact .fDict (R.sub _ _ e)
  | loc n =>
    unfold Rp at r
    obtain ⟨a, e1, rfl⟩ := r
    unfold tyOf at h
    dsimp only at h
    cases q : s[n]? with
    | none => rw [q] at h; cases h
    | some c =>
      rw [q] at h
      cases c with
      | lst xs => cases h; obtain ⟨_, vs, e, _⟩ := R.cell n _ a q e1; exact .base (.lst e)
      | dct ks xs => cases h; obtain ⟨_, vs, e, _⟩ := R.cell n _ a q e1; exact .base (.dK e)
      | _ => cases h
  | _ => cases h
def bIsi : DB
  | [x, .ty n], s => match tyOf s x with
    | some t => match kitB t n with
      | some b => .ok (.bl b) s
      | none => .stuck
    | none => .stuck
  | _, _ => .stuck
theorem db_isi : DenB T (rIsi T.K) bIsi := by
  intro ds vs H P ι F s Q E R r post
  unfold bIsi at post
  split at post
  · obtain ⟨v, u, rfl, h1, h2⟩ := rps2 r
    split at post
    · rename_i t ht
      split at post
      · rename_i b hb
        unfold Rp at h2
        subst h2
        exact ⟨v, _, _, _, b, rfl, .ty _, ty_ok R h1 ht, kit_ty hb, post.here R (by unfold Rp; rfl)⟩
      · exact post.elim
    · exact post.elim
  · exact post.elim
end
/-! ## the end of a law -/
theorem law_end {T : Tb} {k : Nat} {φ : List D → Sto → Res D} {H : Hp} {a : Addr} {ns : List Int} (hO : Only H) (hS : SqL T.K H a (ns.map V.int)) (h : φ [.scr ns] [] = .ok (.bl true) []) :
    spD T 1 φ [.ref a] H (fun v _ => v = .bl true) fun _ _ _ => False := by
  have R : RelH T (fun _ => none) [] H [] H := by
    refine ⟨fun _ _ h => h, fun _ _ h => ?_, fun _ _ h => ?_, rfl, fun n c a h => ?_, fun n c a h => ?_, fun n m c c' a h => ?_⟩
    · cases h
    · cases h
    all_goals simp at h
  refine ⟨rfl, fun _ => none, [], H, [], [.scr ns], R, .cons (by unfold Rp; exact ⟨a, rfl, hS⟩) .nil, ?_⟩
  rw [h]
  intro v H' ι' F' g R r
  unfold Rp at r
  exact r
theorem cx_none {P : Program} {w : World} {H : Hp} {s s' : Shared} {e : Value} (h : L2.CX P w [] H s (fun _ _ _ => False) e s') : False := by
  obtain ⟨_, _, _, _, _, _, _, _, _, _, _, _, h⟩ := h
  exact h
theorem law_walks {l : PySem.W.OpenLaw} {k : Nat} {q : Program} {lo : List Str} {XP : (Str → Option Value) → Heap → Prop} {YP : World → Heap → Prop} {d : DefRec} {x : Str} (hm : l.most = some 63) (hdf : d.params.defaults = []) (room : Room k callerA)
    (F : ∀ (w : World) (mg : Str → Option Value) (fa : Addr) (h : Heap), YP w h → h.Ns mainGlobals mg → mg d.name = some (.ref fa) →
      ∃ (K : PySem.W.Frag) (fd : FuncData) (sp : Sp), K.In h ∧ (∀ (s : Shared) (u : Value), BindsTo s fd ⟨[u], []⟩ [(x, u)]) ∧
        (∀ (H : Hp) (a : Addr) (ns : List Int), ns.length ≤ 63 → Only H → SqL K H a (ns.map V.int) → sp [.ref a] H (fun v _ => v = .bl true) fun _ _ _ => False) ∧
        ∀ base : Heap, K.In base → base.Ns mainGlobals mg → FnOk l.prog w K mg base (L2.CX l.prog w) k fa fd [x] sp) :
    PySem.W.WalkO q lo XP YP l.row.toRowW d [] (fun f vs => PySem.call f vs) := by
  refine Att.attach_call hm hdf fun w sA sB mg mb fa o pm cd doc a vs ns G Y ho hd hcd hmg hobj hin hlen hg => ?_
  obtain ⟨K, fd, sp, KX, bi, pr, fn⟩ := F w mg fa _ Y G.T.g hmg
  exact law_call KX G.T.g G.T.b G.T.builtins G.T.nolimit hg hobj hin (Nat.le_trans hlen (by rw [sizeLine_eq]; decide)) room fn bi (fun H hO hS => pr H a ns hlen hO hS) fun H e s' z => cx_none z
end Mp
/-! # MpG -/
namespace Mp
open PySem PySem.Spec L2 PyProof.Rows
/-! ## the head's look, with one more Bool -/
abbrev AlE : Type := He.AlD × Bool
def obsE (fa : List He.Fa) (fn : List He.DefD) (ex : PySem.W.Frag → Bool) (K : PySem.W.Frag) : AlE := (He.obsD fa fn K, ex K)
structure SaysE (fa : List He.Fa) (fn : List He.DefD) (ex : PySem.W.Frag → Bool) (K : PySem.W.Frag) : Prop where
  d : He.SaysD fa fn K
  more : ex K = true
def obsEG (n : Nat) (fa : List He.Fa) (fn : List He.DefD) (ex : PySem.W.Frag → Bool) (g : Addr → Option Obj) : AlE := obsE fa fn ex (He.frG g (He.asD g n))
def hookE (n : Nat) (fa : List He.Fa) (fn : List He.DefD) (ex : PySem.W.Frag → Bool) : PySem.W.Hook where
  α := AlE
  obs := fun s => obsEG n fa fn ex s.heap.get?
  val := fun _ => (He.valD fn, true)
  says := fun _ h => ∃ K : PySem.W.Frag, K.In h ∧ SaysE fa fn ex K
  of := fun _ _ e => ⟨_, He.frG_in, congrArg (fun z : AlE => z.1) e, congrArg (fun z : AlE => z.2) e⟩
  keeps := fun _ _ _ ⟨K, hK, c⟩ k => ⟨K, PySem.W.Frag.In.keeps hK k, c⟩
theorem obsEG_eq {n : Nat} {fa : List He.Fa} {fn : List He.DefD} {ex : PySem.W.Frag → Bool} {g : Addr → Option Obj} {s : Shared} (h : ∀ a, g a = s.heap.get? a) : obsEG n fa fn ex g = (hookE n fa fn ex).obs s := by
  have e : g = s.heap.get? := funext h
  rw [e] <;> rfl
/-! ## the classes of exceptions: par.getD k k is k's parent (k itself where there is none) -/
def ancF (par : List Nat) : Nat → Nat → Nat → Bool
  | 0, k, c => k == c
  | n + 1, k, c => k == c || (par.getD k k != k && ancF par n (par.getD k k) c)
def ancO (par : List Nat) (k c : Nat) : Option Bool := if k < par.length ∧ c < par.length then some (ancF par par.length k c) else none
/-- n1: so many of them have no __init__ of their own -/
structure ExT (K : PySem.W.Frag) (ca : Nat → Addr) (par : List Nat) (n1 : Nat) : Prop where
  exm : ∀ k c b, ancO par k c = some b → PySem.W.exmOne K (.ref (ca k)) (.ref (ca c)) = some b
  kit : ∀ k c b, ancO par k c = some b → PySem.W.kitOne K (.ref (ca k)) (.ref (ca c)) = some b
  kiv : ∀ k, k < par.length → PySem.W.kitOne K (.ref (ca k)) (.type "ValueError") = some true
  exc : ∀ k, k < par.length → ExcC K (ca k)
  mkx : ∀ k, k < n1 → PySem.W.excIn K (ca k) He.veBase "ValueError.__new__" = true ∧ PySem.W.keepIn K (.ref (ca k)) = true ∧ PySem.W.subIn K (.ref (ca k)) (.type "BaseException") = some true ∧ PySem.W.typeIn K (.ref (ca k)) = some (.type "type")
def exc1 (K : PySem.W.Frag) (D : Addr) : Bool :=
  decide (PySem.W.findIn K (.ref D) "__getattribute__" = some (some (.builtin "BaseException.__getattribute__"))) && (decide (PySem.W.findIn K (.ref D) "__getattr__" = some none) && (decide (PySem.W.subIn K (.ref D) (.type "BaseException") = some true) && (PySem.W.hasDictIn K D &&
  (decide (PySem.W.findIn K (.ref D) "__class__" = some (some (.builtin "object.__class__"))) && (decide (PySem.W.specialIn K (.builtin "object.__class__") "__get__" = some (some (.builtin "getset_descriptor.__get__"))) && (decide (PySem.W.takesIn K (.builtin "object.__class__") = some true) &&
  (decide (PySem.W.mroIn K D (.type "object") = some true) && decide (PySem.W.kitOne K (.ref D) (.type "ValueError") = some true))))))))
def mkx1 (K : PySem.W.Frag) (D : Addr) : Bool := PySem.W.excIn K D He.veBase "ValueError.__new__" && (PySem.W.keepIn K (.ref D) && (decide (PySem.W.subIn K (.ref D) (.type "BaseException") = some true) && decide (PySem.W.typeIn K (.ref D) = some (.type "type"))))
def exB (ca : PySem.W.Frag → Nat → Addr) (par : List Nat) (n1 : Nat) (K : PySem.W.Frag) : Bool := ((List.range n1).all fun k => mkx1 K (ca K k)) && (List.range par.length).all fun k => exc1 K (ca K k) && (List.range par.length).all fun c => decide (PySem.W.exmOne K (.ref (ca K k)) (.ref (ca K c)) = some (ancF par par.length k c)) && decide (PySem.W.kitOne K (.ref (ca K k)) (.ref (ca K c)) = some (ancF par par.length k c))
theorem exT_of {ca : PySem.W.Frag → Nat → Addr} {par : List Nat} {n1 : Nat} {K : PySem.W.Frag} (h0 : exB ca par n1 K = true) : ExT K (ca K) par n1 := by
  unfold exB at h0
  obtain ⟨hm, h⟩ := He.ba h0
  rw [List.all_eq_true] at h hm
  have one : ∀ k, k < par.length → exc1 K (ca K k) = true ∧ ∀ c, c < par.length → PySem.W.exmOne K (.ref (ca K k)) (.ref (ca K c)) = some (ancF par par.length k c) ∧ PySem.W.kitOne K (.ref (ca K k)) (.ref (ca K c)) = some (ancF par par.length k c) := fun k hk => by
    obtain ⟨h1, h2⟩ := He.ba (h k (List.mem_range.mpr hk))
    refine ⟨h1, fun c hc => ?_⟩
    rw [List.all_eq_true] at h2
    obtain ⟨h3, h4⟩ := He.ba (h2 c (List.mem_range.mpr hc))
    exact ⟨of_decide_eq_true h3, of_decide_eq_true h4⟩
  have two : ∀ k c b, ancO par k c = some b → k < par.length ∧ c < par.length ∧ ancF par par.length k c = b := fun k c b e => by
    unfold ancO at e
    split at e
    · rename_i hk
      exact ⟨hk.1, hk.2, Option.some.inj e⟩
    · cases e
  refine ⟨fun k c b e => ?_, fun k c b e => ?_, fun k hk => ?_, fun k hk => ?_, fun k hk => ?_⟩
  · obtain ⟨h1, h2, h3⟩ := two k c b e
    rw [← h3]; exact ((one k h1).2 c h2).1
  · obtain ⟨h1, h2, h3⟩ := two k c b e
    rw [← h3]; exact ((one k h1).2 c h2).2
  · have z := (one k hk).1
    unfold exc1 at z
    simp only [Bool.and_eq_true, decide_eq_true_eq] at z
    exact z.2.2.2.2.2.2.2.2
  · have z := (one k hk).1
    unfold exc1 at z
    simp only [Bool.and_eq_true, decide_eq_true_eq] at z
    obtain ⟨z1, z2, z3, z4, z5, z6, z7, z8, z9⟩ := z
    exact ⟨z1, z2, z3, z4, z5, z6, z7, z8⟩
  · have z := hm k (List.mem_range.mpr hk)
    unfold mkx1 at z
    simp only [Bool.and_eq_true, decide_eq_true_eq] at z
    exact z
/-! ## raise -/
def sRaise (c : Nat) : DS := fun δ s => .ex c δ s
section
variable {T : Tb} {X : Cx} {par : List Nat} {n1 : Nat}
theorem s_raise {x m : Str} {j : Nat} {p p2 pos pos' : Pos} (c : Nat) (x1 : ExT T.K T.ca par n1) (gC : X.mg x = some (.ref (T.ca c))) (hc : c < n1 := by decide) (hg : Gl X x := by rfl) (hdb : (x == ("__debug__" : Str)) = false := by decide) (hcalm : X.calm = true := by rfl) (hK : X.K = T.K := by rfl) :
    PDs T X (.Raise (some (.Call (.Name x p) [.Constant (.str m) j p2] [] pos)) none pos') (sRaise c) := fun pn xe W tk ow => by
  obtain ⟨h1, h2, h3, h4⟩ := x1.mkx c hc
  rw [← hK] at h1 h2 h3 h4
  refine ⟨_, ps_raise (X := X.tr pn xe) hcalm tk (pmk_own (X := X.tr pn xe) F.excBase_ValueError h1 gC h2 (raises_own h3 h4) hg hdb), fun En σ H P ι F δ s R E post => ?_⟩
  exact post σ H ι F (Grow.refl _ _) R E
end
/-! ## what the except suite holds is tracked -/
theorem Inv.track {X : Cx} {pins : List (Addr × Obj)} {σ : L2.St} {H : Hp} {s : Shared} {a : Addr} {cls : Value} {oe : Obj} {vs : Array Value} (I : Inv X pins σ H s) (ha : s.heap.get? a = some oe) (hz : Zc cls none oe) (hd : oe.data = .fields vs) (na : H a = none) (nL : a ≠ X.env.locals)
    (n0 : X.s_0.heap.get? a = none) (np : ∀ p ∈ X.pn ++ pins, p.1 ≠ a) : Inv X pins σ (upd H a (ExV cls a)) s := by
  have un : ∀ b, b ≠ a → upd H a (ExV cls a) b = H b := fun b h => upd_ne h
  refine ⟨I.ok, I.os, I.bare, ⟨I.base.keep, I.base.slot, fun b o e n hx => ?_, I.base.there, fun b xs e => ?_, fun b o u e => ?_, fun b ps e => ?_⟩, I.loc, I.cell, ?_, fun x c e => ?_, fun p hp => ?_, fun b u e => ?_, I.len⟩
  · rw [un b fun z => by subst z; rw [n0] at e; cases e]
    exact I.base.free b o e n hx
  · have q := I.base.tups b xs e
    rw [un b fun z => by subst z; rw [na] at q; cases q]
    exact q
  · have q := I.base.frzs b o u e
    rw [un b fun z => by subst z; rw [na] at q; cases q]
    exact q
  · obtain ⟨more, q⟩ := I.base.tbls b ps e
    rw [un b fun z => by subst z; rw [na] at q; cases q]
    exact ⟨more, q⟩
  · rw [un _ (Ne.symm nL)]
    exact I.free
  · rw [un c fun z => by
      subst z
      obtain ⟨v, o, ho, hd'⟩ := I.cell x c e
      rw [ha] at ho; cases ho
      rw [hd] at hd'; cases hd']
    exact I.freeC x c e
  · obtain ⟨e, n, ne, nf, d⟩ := I.pin p hp
    exact ⟨e, by rw [un _ (np p hp)]; exact n, ne, nf, d⟩
  · by_cases hb : b = a
    · subst hb
      rw [upd_same] at e
      cases e
      exact ⟨⟨oe, ha, hz, vs, hd⟩, ⟨oe, ha⟩, fun h1 h2 q k => by
        obtain ⟨o, q1, q2⟩ := q
        exact ⟨o, k o q1, q2⟩⟩
    · rw [un b hb] at e
      exact (I.hok b u e).stay (fun _ _ _ q => q) (fun c q => by rw [upd_ne (ne_of_none q na)]; exact q) fun c xs q => by rw [upd_ne (ne_of_none q na)]; exact q
/-- what the clause wishes of an exception of the body; i: the name's slot -/
def setO (i : Option Nat) (o : Option V) (σ : L2.St) : L2.St := match i with
  | some i => σ.set i o
  | none => σ
def wTr (K : PySem.W.Frag) (c : Value) (i : Option Nat) (ts : TS) (Wout : WX) (D : Ends) : WX := fun cls d σ H =>
  ∃ b, PySem.W.exmOne K cls c = some b ∧ (b = true → d = none ∧ ∀ a, H a = none → ts { nx := fun σ' H' => D.nx (setO i none σ') H', rt := D.rt, bk := fun σ' H' => D.bk (setO i none σ') H', ct := fun σ' H' => D.ct (setO i none σ') H' } (setO i (some (.ref a)) σ) (upd H a (ExV cls a))) ∧
    (b = false → Wout cls d σ H)
section
variable {X : Cx} {x n : Str} {c : Value} {i : Nat} {body suite : List Stmt} {b₀ : Stmt} {np pos pos' : Pos} {tb : WX → TS} {ts : TS} {Wout : WX}
theorem Inv.toSuite {pins : List (Addr × Obj)} {σ : L2.St} {H : Hp} {s : Shared} (I : Inv X pins σ H s) (a : Addr) : Inv (X.suite a (X.pn ++ pins)) [] σ H s :=
  ⟨I.ok.suite _ _, I.os, I.bare, I.base, I.loc, I.cell, I.free, I.freeC, fun p hp => I.pin p (by rw [List.append_nil] at hp; exact hp), I.hok, I.len⟩
theorem Inv.ofSuite {pins pn' : List (Addr × Obj)} {σ : L2.St} {H : Hp} {s : Shared} {a : Addr} (I : Inv (X.suite a (X.pn ++ pins)) pn' σ H s) (ok : X.Ok) : Inv X pins σ H s :=
  ⟨ok, I.os, I.bare, I.base, I.loc, I.cell, I.free, I.freeC, fun p hp => I.pin p (List.mem_append_left _ hp), I.hok, I.len⟩
theorem ps_tryT (hs : X.stack = X.env :: X.outer) (hf : X.env.frame = some X.env.locals) (hex : X.ex = []) (hN : X.N.Nodup) (hi : X.N[i]? = some n) (hln : X.env.kindOf n = some .local) (hc : Names X x c) (tk : Takes X Wout)
    (hb : ∀ (W : WX) (pn : List (Addr × Obj)) (xe : Value → Shared → Prop), Takes (X.tr pn xe) W → PassesOwn (model X.prog X.w) X.A X.env xe → PSs (X.tr pn xe) body (tb W))
    (hsu : ∀ (a : Addr) (pn : List (Addr × Obj)), PSs (X.suite a pn) (b₀ :: suite) ts) :
    PS X (.Try body [.ExceptHandler (some (.Name x np)) (some n) (b₀ :: suite) pos'] [] [] pos) (fun D σ H => tb (wTr X.K c (some i) ts Wout D) D σ H) := by
  refine ⟨fun pins s σ H D I h => ?_⟩
  have ok := I.ok
  have hfr : X.A.frames = some (X.env :: X.outer) := by rw [ok.frames, hs]
  have hloc : Loc X.env.scope n := .inl hln
  refine wpAny_Try_except ?_
  refine wpAny_mono ((hb (wTr X.K c (some i) ts Wout D) (X.pn ++ pins) (fun e s₁ => wpAny (model X.prog X.w) X.A (noteFrame e X.env) (fun _ s₂ => wpAny (model X.prog X.w) X.A (setFlight e none) (fun _ s₃ =>
    wpAny (model X.prog X.w) X.A (handleBy e X.env [.ExceptHandler (some (.Name x np)) (some n) (b₀ :: suite) pos']) (SP X pins D) X.xe s₃) X.xe s₂) X.xe s₁) (fun u s' xx => ?_) PassesOwn.looking).run [] s σ H D (I.toTry _) h) (fun f s1 hsp => ?_) (fun e s1 he => he)
  · obtain ⟨a, B, sI, pins', σ', H', cls, d, rfl, J', nb, up, sky, na, os, ag, b, hb1, hyes, hno⟩ := xx
    have J : Inv X pins σ' H' sI := J'.ofTry ok
    have sky' : Sky B (X.env :: X.outer) a (Zc cls d) X.env.locals s'.heap := by rw [← hs]; exact sky
    show wpAny (model X.prog X.w) X.A (noteFrame (.ref a) X.env) _ _ _
    refine Sky.land Zc.steady hfr hf sky' fun h3 fl3 up3 => ?_
    have J3 : Inv X pins σ' H' { s' with heap := h3 } := J.landed nb fl3.1 (up.trans up3) os ag
    obtain ⟨oe3, vs3, he3, hz3, hd3⟩ := fl3.there
    have notFr : ∀ {h : Heap} {o : Obj} {vs : Array Value}, h.FunFrames B (X.env :: X.outer) → h.get? a = some o → o.data = .fields vs → a ∉ frs (X.env :: X.outer) := fun {h o vs} ff e dd hm => by
      obtain ⟨_, o', e', hnf⟩ := ff.mem hm
      rw [e] at e'; cases e'
      exact hnf _ dd
    have nfr := notFr fl3.2.2.1 he3 hd3
    have nL : a ≠ X.env.locals := fun z => nfr (List.mem_filterMap.mpr ⟨X.env, List.mem_cons_self, by rw [hf, z]⟩)
    have nF : a ∉ X.fs := fun hm => by
      obtain ⟨e, he, q⟩ := List.mem_filterMap.mp hm
      exact nfr (List.mem_filterMap.mpr ⟨e, List.mem_cons_of_mem _ he, q⟩)
    have S3 := J3.suite he3 hd3 na nL nF
    refine wpAny_handleBy_cons (codeAny_handlers_test ?_) (by intro q; cases q)
    have LT : PySem.W.Looks (model X.prog X.w) h3 (typeOf (.ref a)) cls := fun A Q E s k q => wpAny_typeOf_ref (k _ _ he3) (by rw [hz3.1]; exact q)
    have LM := PySem.W.exm_one (M := model X.prog X.w) (J3.kIn) LT hb1
    have test : ∀ {Q : Value → Shared → Prop} {E : Value → Shared → Prop}, Q c { s' with heap := h3 } → wpAny (model X.prog X.w) (X.A.mark (some (.ref a))) (eval (.Name x np) X.env) Q E { s' with heap := h3 } := fun {Q E} q => by
      obtain ⟨hg, hdbg, hm | ⟨hm, hv, hnn⟩⟩ := hc
      · exact ld_glob (X := X.suite a ((a, oe3) :: (X.pn ++ pins))) S3 hg hm q hdbg
      · exact ld_blt (X := X.suite a ((a, oe3) :: (X.pn ++ pins))) S3 hg hm hv q hnn hdbg
    refine test (LM.here ?_)
    cases b with
    | true =>
      refine codeAny_handlers_suite_as ?_
      refine HandSPX.lands_againZ fl3 fun h4 fl4 up4 => ?_
      have J4 : Inv X pins σ' H' { s' with heap := h4 } := J.landed nb fl4.1 ((up.trans up3).trans up4) os ag
      obtain ⟨oe4, vs4, he4, hz4, hd4⟩ := fl4.there
      obtain ⟨rfl, hyes'⟩ := hyes rfl
      have nst : a ∉ frs X.stack := by rw [hs]; exact nfr
      have n0 : X.s_0.heap.get? a = none := by
        cases q : X.s_0.heap.get? a with
        | none => rfl
        | some o =>
          obtain ⟨o', e'⟩ := J.base.there a o q (by rw [hex]; exact fun z => by cases z)
          have z := nb a o' e' nst
          rw [fl4.2.1] at z; cases z
      have np' : ∀ p ∈ X.pn ++ pins, p.1 ≠ a := fun p hp z => by
        obtain ⟨e, _⟩ := J.pin p hp
        rw [z] at e
        have y := nb a _ e nst
        rw [fl4.2.1] at y; cases y
      have J5 := Inv.track J4 he4 hz4 hd4 na nL n0 np'
      refine store_ok (X := X.suite a (X.pn ++ pins)) (v := .ref a) (Inv.toSuite J5 a) hN hi hloc rfl (fun s5 S5 => ?_) (.inr hln)
      refine wpAny_mono ((hsu a (X.pn ++ pins)).run [] s5 _ _ _ S5 (hyes' a na)) (fun f s6 hsp => ?_) (fun _ _ z => False.elim z)
      have end_ : ∀ {σ6 : L2.St} {H6 : Hp} {Q : Shared → Prop}, Inv (X.suite a (X.pn ++ pins)) [] σ6 H6 s6 → (∀ s7, Inv X pins (σ6.set i none) H6 s7 → Q s7) →
          wpAny (model X.prog X.w) X.A (do bindName X.env n .none; unbindBehindTheSuite X.env n pos') (fun _ s7 => Q s7) X.xe s6 := fun {σ6 H6 Q} S6 hq => gone_ok (Inv.ofSuite S6 ok) hN hi hln hq
      cases f with
      | next =>
        obtain ⟨σ6, H6, S6, q6⟩ := hsp
        exact end_ S6 fun s7 J7 => ⟨_, _, J7, q6⟩
      | brk =>
        obtain ⟨σ6, H6, S6, q6⟩ := hsp
        exact end_ S6 fun s7 J7 => ⟨_, _, J7, q6⟩
      | cont =>
        obtain ⟨σ6, H6, S6, q6⟩ := hsp
        exact end_ S6 fun s7 J7 => ⟨_, _, J7, q6⟩
      | ret u =>
        obtain ⟨v6, σ6, H6, S6, r6, q6⟩ := hsp
        exact end_ S6 fun s7 J7 => ⟨_, _, _, J7, r6, q6⟩
    | false =>
      show wpAny _ X.A (handleBy (.ref a) X.env []) _ _ _
      refine wpAny_handleBy_nil ?_
      obtain ⟨k1, k2, k3, oe, vs, T, oT, ts', he, hz, hd, h1, hr⟩ := id fl3
      unfold PySem.passOn
      refine wpAny_bind (wpAny_field he hd h1 ?_)
      rw [if_neg (show ¬ ((Value.ref T == Value.none) = true) from by simp)]
      have fin : wpAny (model X.prog X.w) X.A (setFlight (.ref a) X.env.frame) (fun _ s4 => wpAny (model X.prog X.w) X.A (throw (.ref a) : Sem Flow) (SP X pins D) X.xe s4) X.xe { s' with heap := h3 } := by
        rw [hf]
        refine HandSPX.setFlight_upZ fl3 fun h4 hh4 up4 => wpAny_throw (tk _ _ ?_)
        exact ⟨a, B, sI, pins, σ', H', cls, d, rfl, J, nb, (up.trans up3).trans up4, .inr (.inr (by rw [hs]; exact hh4)), na, os, ag, hno rfl⟩
      first
        | exact wpAny_bind (wpAny_pure (wpAny_bind fin))
        | exact wpAny_bind fin
  · cases f with
    | next =>
      obtain ⟨σ', H', J', q⟩ := hsp
      exact wpAny_execs_nil ⟨σ', H', J'.ofTry ok, q⟩
    | brk =>
      obtain ⟨σ', H', J', q⟩ := hsp
      exact ⟨σ', H', J'.ofTry ok, q⟩
    | cont =>
      obtain ⟨σ', H', J', q⟩ := hsp
      exact ⟨σ', H', J'.ofTry ok, q⟩
    | ret u =>
      obtain ⟨v, σ', H', J', r, q⟩ := hsp
      exact ⟨v, σ', H', J'.ofTry ok, r, q⟩
end
/-! ## try -/
def canS (T : Tb) (W : WX) (g : DS) : TS := fun D σ H => ∃ P ι F δ s, RelH T P ι F s H ∧ REnv T F ι δ σ ∧ PostS T P D W F ι (g δ s)
theorem PSs.weak {X : Cx} {b : List Stmt} {t t' : TS} (h : PSs X b t) (k : ∀ D σ H, t' D σ H → t D σ H) : PSs X b t' := ⟨fun pins s σ H D I q => h.run pins s σ H D I (k _ _ _ q)⟩
theorem DenS.can {T : Tb} {W : WX} {t : TS} {g : DS} (d : DenS T W t g) {D : Ends} {σ : L2.St} {H : Hp} (h : canS T W g D σ H) : t D σ H := by
  obtain ⟨P, ι, F, δ, s, R, E, post⟩ := h
  exact d _ _ _ _ _ _ _ _ R E post
def setE (i : Option Nat) (o : Option D) (δ : Env) : Env := match i with
  | some i => δ.set i o
  | none => δ
def Out.unset (i : Option Nat) : Out → Out
  | .nx δ s => .nx (setE i none δ) s
  | .bk δ s => .bk (setE i none δ) s
  | .ct δ s => .ct (setE i none δ) s
  | .rt d s => .rt d s
  | _ => .stuck
def sTry (anc : Nat → Nat → Option Bool) (c : Nat) (i : Option Nat) (f g : DS) : DS := fun δ s => match f δ s with
  | .ex k δ1 s1 => match anc k c with
    | some true => (g (setE i (some (.exc k)) δ1) s1).unset i
    | some false => .ex k δ1 s1
    | none => .stuck
  | o => o
section
variable {T : Tb} {X : Cx} {par : List Nat} {n1 : Nat}
theorem REnv.setO {F : Hp} {ι : List Addr} {δ : Env} {σ : L2.St} {d : D} {v : V} (e : REnv T F ι δ σ) (h : Rp T F ι d v) (i : Option Nat) : REnv T F ι (setE i (some d) δ) (Mp.setO i (some v) σ) := by
  cases i with
  | none => exact e
  | some i => exact e.set h i
theorem REnv.unsetO {F : Hp} {ι : List Addr} {δ : Env} {σ : L2.St} (e : REnv T F ι δ σ) (i : Option Nat) : REnv T F ι (setE i none δ) (Mp.setO i none σ) := by
  cases i with
  | none => exact e
  | some i => exact e.unset i
theorem den_try {W : WX} {c : Nat} {i : Option Nat} {f g : DS} (x1 : ExT T.K T.ca par n1) : DenS T W (fun D σ H => canS T (wTr T.K (.ref (T.ca c)) i (canS T W0 g) W D) f D σ H) (sTry (ancO par) c i f g) := fun En σ H P ι F δ s R E post => by
  refine ⟨P, ι, F, δ, s, R, E, ?_⟩
  unfold sTry at post
  cases e : f δ s with
  | ex k δ1 s1 =>
    rw [e] at post
    intro σ' H' ι' F' g' R' E'
    dsimp only at post
    cases q : ancO par k c with
    | none => rw [q] at post; exact post.elim
    | some b =>
      refine ⟨b, x1.exm k c b q, fun hb => ⟨rfl, fun a na => ?_⟩, fun hb => ?_⟩
      · subst hb
        rw [q] at post
        dsimp only at post
        have R2 := R'.new na (ExV (.ref (T.ca k)) a)
        have g2 : Grow F' ι' (upd F' a (ExV (.ref (T.ca k)) a)) ι' := grow_new (R'.freeF na) _
        refine ⟨P, ι', _, setE i (some (.exc k)) δ1, s1, R2, (E'.mono g2).setO (by unfold Rp; exact ⟨a, rfl, upd_same⟩) i, ?_⟩
        have gg := g'.trans g2
        cases e2 : g (setE i (some (.exc k)) δ1) s1 with
        | nx δ2 s2 =>
          rw [e2] at post
          exact fun σ3 H3 ι3 F3 g3 R3 E3 => post _ H3 ι3 F3 (gg.trans g3) R3 (E3.unsetO i)
        | bk δ2 s2 =>
          rw [e2] at post
          exact fun σ3 H3 ι3 F3 g3 R3 E3 => post _ H3 ι3 F3 (gg.trans g3) R3 (E3.unsetO i)
        | ct δ2 s2 =>
          rw [e2] at post
          exact fun σ3 H3 ι3 F3 g3 R3 E3 => post _ H3 ι3 F3 (gg.trans g3) R3 (E3.unsetO i)
        | rt d s2 =>
          rw [e2] at post
          exact fun v H3 ι3 F3 g3 R3 r3 => post v H3 ι3 F3 (gg.trans g3) R3 r3
        | ex k2 δ2 s2 => rw [e2] at post; exact post.elim
        | stuck => rw [e2] at post; exact post.elim
      · subst hb
        rw [q] at post
        exact post σ' H' ι' F' g' R' E'
  | nx δ1 s1 => rw [e] at post; exact post
  | rt d s1 => rw [e] at post; exact post
  | bk δ1 s1 => rw [e] at post; exact post
  | ct δ1 s1 => rw [e] at post; exact post
  | stuck => rw [e] at post; exact post
theorem s_tryA {x n : Str} {body suite : List Stmt} {b₀ : Stmt} {np pos pos' : Pos} {f g : DS} (c i : Nat) (x1 : ExT T.K T.ca par n1) (hN : X.N.Nodup) (gC : X.mg x = some (.ref (T.ca c))) (hb : PDb T X body f) (hsu : ∀ (a : Addr) (pn : List (Addr × Obj)), PDb T (X.suite a pn) (b₀ :: suite) g)
    (hi : X.N[i]? = some n := by rfl) (hln : X.env.kindOf n = some .local := by rfl) (hg : Gl X x := by rfl) (hdb : (x == ("__debug__" : Str)) = false := by decide) (hs : X.stack = X.env :: X.outer := by rfl) (hf : X.env.frame = some X.env.locals := by rfl) (hex : X.ex = [] := by rfl) (hK : X.K = T.K := by rfl) :
    PDs T X (.Try body [.ExceptHandler (some (.Name x np)) (some n) (b₀ :: suite) pos'] [] [] pos) (sTry (ancO par) c (some i) f g) := fun pn xe W tk ow => by
  have hK' : (X.tr pn xe).K = T.K := hK
  have key := ps_tryT (X := X.tr pn xe) (x := x) (n := n) (c := .ref (T.ca c)) (i := i) (body := body) (suite := suite) (b₀ := b₀) (np := np) (pos := pos) (pos' := pos') (tb := fun W' => canS T W' f) (ts := canS T W0 g) (Wout := W) hs hf hex hN hi hln ⟨hg, hdb, .inl gC⟩ tk
    (fun W' pn' xe' tk' ow' => by
      obtain ⟨t, p, d⟩ := hb pn' xe' W' tk' ow'
      exact PSs.weak p fun D σ H q => d.can q)
    (fun a pn' => by
      obtain ⟨t, p, d⟩ := hsu a pn' pn' (fun _ _ => False) W0 takes0 PassesOwn.never
      exact PSs.weak p fun D σ H q => d.can q)
  rw [hK'] at key
  exact ⟨_, key, den_try x1⟩
end
/-! ## isinstance, exceptions among -/
theorem CallR.or {X : Cx} {f : Value} {r r' : List V → Hp → VK → Prop} (h : CallR X f r) (h' : CallR X f r') : CallR X f (fun vs H Q => r vs H Q ∨ r' vs H Q) := by
  intro pins s σ H xs us Q I rv q
  rcases q with q | q
  · exact h pins s σ H xs us Q I rv q
  · exact h' pins s σ H xs us Q I rv q
def rIsX (K : PySem.W.Frag) : List V → Hp → VK → Prop := fun xs H Q => ∃ (a D : Addr) (c : V) (cv : Value) (b : Bool), xs = [.ref a, c] ∧ H a = some (ExV (.ref D) a) ∧ ExcC K D ∧ ClsV c cv ∧ PySem.W.kitOne K (.ref D) cv = some b ∧ Q (.bl b) H
theorem call_isX {X : Cx} : CallR X (.builtin "isinstance") (rIsX X.K) := by
  intro pins s σ H xs us Q I r h
  obtain ⟨a, D, c, cv, b, rfl, hH, C, hcv, e, q⟩ := h
  obtain ⟨u1, u2, rfl, r1, r2⟩ := vals2 r
  cases (show u1 = Value.ref a from r1)
  have e2 := hcv.eq r2
  subst e2
  obtain ⟨⟨oe, hget, hz, vs, hv⟩, _⟩ := (show ObjOk X.prog X.w H s.heap a (ExV (.ref D) a) from I.hok a _ hH)
  have J : PySem.W.InstAt s.heap a oe D none := by
    obtain ⟨oc, od, oda, osl⟩ := oe
    obtain ⟨h1, h2⟩ := hz
    dsimp only at h1 h2 hv
    subst h1 h2 hv
    exact ⟨hget, rfl, rfl, trivial⟩
  exact PySem.W.kia_one (PySem.W.handS_kitx_exc C.hg C.hk C.hs C.hd C.ha C.hn C.ht C.hm) I.kIn J e (fun z => nomatch z) fun tk => ⟨.bl b, H, I.kept (t' := tk) fun _ _ z => z, rfl, q⟩
def rIsA (K : PySem.W.Frag) : List V → Hp → VK → Prop := fun xs H Q => rIsi K xs H Q ∨ rIsX K xs H Q
theorem call_isA {X : Cx} : CallR X (.builtin "isinstance") (rIsA X.K) := CallR.or call_isi call_isX
def bIsA (par : List Nat) : DB
  | [.exc k, .cls c], s => match ancO par k c with
    | some b => .ok (.bl b) s
    | none => .stuck
  | [.exc k, .ty n], s => if n = "ValueError" ∧ k < par.length then .ok (.bl true) s else .stuck
  | [x, .ty n], s => match tyOf s x with
    | some t => match kitB t n with
      | some b => .ok (.bl b) s
      | none => .stuck
    | none => .stuck
  | _, _ => .stuck
theorem db_isA {T : Tb} {par : List Nat} {n1 : Nat} (x1 : ExT T.K T.ca par n1) : DenB T (rIsA T.K) (bIsA par) := by
  intro ds vs H P ι F s Q E R r post
  unfold bIsA at post
  split at post
  · rename_i k c
    obtain ⟨v, u, rfl, h1, h2⟩ := rps2 r
    unfold Rp at h1 h2
    obtain ⟨a, rfl, h1⟩ := h1
    subst h2
    split at post
    · rename_i b hb
      have hk : k < par.length := by
        unfold ancO at hb
        split at hb
        · rename_i z; exact z.1
        · cases hb
      exact .inr ⟨a, T.ca k, .ref (T.ca c), .ref (T.ca c), b, rfl, R.sub _ _ h1, x1.exc _ hk, .own _, x1.kit _ _ _ hb, post.here R (by unfold Rp; rfl)⟩
    · exact post.elim
  · obtain ⟨v, u, rfl, h1, h2⟩ := rps2 r
    unfold Rp at h1 h2
    obtain ⟨a, rfl, h1⟩ := h1
    subst h2
    split at post
    · rename_i hk
      obtain ⟨rfl, hk⟩ := hk
      exact .inr ⟨a, _, _, _, true, rfl, R.sub _ _ h1, x1.exc _ hk, .ty _, x1.kiv _ hk, post.here R (by unfold Rp; rfl)⟩
    · exact post.elim
  · obtain ⟨v, u, rfl, h1, h2⟩ := rps2 r
    split at post
    · rename_i t ht
      split at post
      · rename_i b hb
        unfold Rp at h2
        subst h2
        exact .inl ⟨v, _, _, _, b, rfl, .ty _, ty_ok R h1 ht, kit_ty hb, post.here R (by unfold Rp; rfl)⟩
      · exact post.elim
    · exact post.elim
  · exact post.elim
end Mp
/-! # MpH -/
namespace Mp
open PySem PySem.Spec L2
/-! ## cells -/
section
variable {T : Tb} {P : Hp} {ι : List Addr} {F : Hp} {s : Sto} {H : Hp}
theorem grow_app (F : Hp) (ι : List Addr) (p : Addr) : Grow F ι F (ι ++ [p]) := ⟨fun _ _ h => h, [p], rfl⟩
/-- a new cell -/
theorem RelH.alloc (R : RelH T P ι F s H) {p : Addr} (hp : H p = none) {o : HO} {c : Cell} (hc : CellAt T (ι ++ [p]) F (upd H p o) p c) : RelH T P (ι ++ [p]) F (s ++ [c]) (upd H p o) := by
  have old : ∀ {n : Nat} {c' : Cell} {a : Addr}, s[n]? = some c' → (ι ++ [p])[n]? = some a → ι[n]? = some a := fun {n c' a} h1 h2 => by
    have := (List.getElem?_eq_some_iff.mp h1).1
    rw [List.getElem?_append_left (by rw [R.len]; exact this)] at h2
    exact h2
  have split_ : ∀ {n : Nat} {c' : Cell}, (s ++ [c])[n]? = some c' → s[n]? = some c' ∨ (n = s.length ∧ c' = c) := fun {n c'} h => by
    by_cases hn : n < s.length
    · rw [List.getElem?_append_left hn] at h; exact .inl h
    · rw [List.getElem?_append_right (Nat.le_of_not_lt hn)] at h
      have hl := (List.getElem?_eq_some_iff.mp h).1
      have e0 : n - s.length = 0 := by simpa using hl
      rw [e0] at h
      exact .inr ⟨by omega, (Option.some.inj h).symm⟩
  have newI : ∀ {a : Addr}, (ι ++ [p])[s.length]? = some a → a = p := fun {a} h => by
    rw [← R.len] at h
    simp at h
    exact h.symm
  have ne : ∀ {n : Nat} {c' : Cell} {a : Addr}, s[n]? = some c' → c'.live = true → ι[n]? = some a → a ≠ p := fun {n c' a} h1 l h2 => by
    obtain ⟨u, hu⟩ := (R.cell n c' a h1 h2).has l
    exact ne_of_none hu hp
  refine ⟨fun a u h => ?_, fun a u h => ?_, R.dis, by simp [R.len], fun n c' a h1 h2 => ?_, fun n c' a h1 l h2 => ?_, fun n m c1 c2 a h1 h2 l1 l2 h3 h4 => ?_⟩
  · have q := R.sub a u h
    rw [upd_ne (ne_of_none q hp)]; exact q
  · have q := R.pro a u h
    rw [upd_ne (ne_of_none q hp)]; exact q
  · rcases split_ h1 with h1 | ⟨rfl, rfl⟩
    · have h2' := old h1 h2
      refine (R.cell n c' a h1 h2').grow (grow_app _ _ _) (fun _ => rfl) (fun l => upd_ne (ne h1 l h2'))
    · rw [newI h2]; exact hc
  · rcases split_ h1 with h1 | ⟨rfl, rfl⟩
    · exact R.npr n c' a h1 l (old h1 h2)
    · rw [newI h2]; exact R.freeP hp
  · rcases split_ h1 with k1 | ⟨e1, f1⟩
    · rcases split_ h2 with k2 | ⟨e2, f2⟩
      · exact R.nod n m c1 c2 a k1 k2 l1 l2 (old k1 h3) (old k2 h4)
      · exact absurd (newI (e2 ▸ h4)) (ne k1 l1 (old k1 h3))
    · rcases split_ h2 with k2 | ⟨e2, f2⟩
      · exact absurd (newI (e1 ▸ h3)) (ne k2 l2 (old k2 h4))
      · rw [e1, e2]
/-- a cell is written -/
theorem RelH.setC (R : RelH T P ι F s H) {n : Nat} {a : Addr} {c c' : Cell} {o : HO} (hs : s[n]? = some c) (hl : c.live = true) (hi : ι[n]? = some a) (hc : CellAt T ι F (upd H a o) a c') : RelH T P ι F (s.set n c') (upd H a o) := by
  have hn := (List.getElem?_eq_some_iff.mp hs).1
  have hF : F a = none := by
    have q := R.cell n c a hs hi
    cases c with
    | dead => cases hl
    | lst _ => exact q.1
    | dct _ _ => exact q.1
    | dcT _ _ => exact q.1
    | obj _ _ _ => exact q.1
    | tbl _ => exact q.1
  have hP := R.npr n c a hs hl hi
  have at_ : ∀ {m : Nat} {d : Cell}, (s.set n c')[m]? = some d → (m = n ∧ d = c') ∨ (m ≠ n ∧ s[m]? = some d) := fun {m d} h => by
    by_cases e : n = m
    · subst e
      rw [List.getElem?_set_self hn] at h
      exact .inl ⟨rfl, (Option.some.inj h).symm⟩
    · rw [List.getElem?_set_ne e] at h
      exact .inr ⟨fun z => e z.symm, h⟩
  have ne : ∀ {m : Nat} {d : Cell} {b : Addr}, m ≠ n → s[m]? = some d → d.live = true → ι[m]? = some b → b ≠ a := fun {m d b} hm h l hb z => by
    subst z
    exact hm (R.nod m n d c b h hs l hl hb hi)
  have hio : ∀ {b : Addr}, ι[n]? = some b → b = a := fun {b} h => by rw [hi] at h; exact (Option.some.inj h).symm
  refine ⟨fun b u h => ?_, fun b u h => ?_, R.dis, by simp [R.len], fun m d b h1 h2 => ?_, fun m d b h1 l h2 => ?_, fun m k c1 c2 b h1 h2 l1 l2 h3 h4 => ?_⟩
  · rw [upd_ne (ne_of_none h hF)]; exact R.sub b u h
  · rw [upd_ne (ne_of_none h hP)]; exact R.pro b u h
  · rcases at_ h1 with ⟨rfl, rfl⟩ | ⟨hm, h1⟩
    · rw [hio h2]; exact hc
    · exact (R.cell m d b h1 h2).grow (Grow.refl _ _) (fun _ => rfl) fun l => upd_ne (ne hm h1 l h2)
  · rcases at_ h1 with ⟨rfl, rfl⟩ | ⟨hm, h1⟩
    · rw [hio h2]; exact hP
    · exact R.npr m d b h1 l h2
  · rcases at_ h1 with ⟨e1, f1⟩ | ⟨hm, k1⟩
    · rcases at_ h2 with ⟨e2, f2⟩ | ⟨hk, k2⟩
      · rw [e1, e2]
      · exact absurd (hio (e1 ▸ h3)) (ne hk k2 l2 h4)
    · rcases at_ h2 with ⟨e2, f2⟩ | ⟨hk, k2⟩
      · exact absurd (hio (e2 ▸ h4)) (ne hm k1 l1 h3)
      · exact R.nod m k c1 c2 b k1 k2 l1 l2 h3 h4
/-- a cell stays as it is from now on -/
theorem RelH.freeze (R : RelH T P ι F s H) {n : Nat} {a : Addr} {c : Cell} {o : HO} (hs : s[n]? = some c) (hl : c.live = true) (hi : ι[n]? = some a) (hF : F a = none) (hH : H a = some o) : RelH T P ι (upd F a o) (s.set n .dead) H := by
  have hn := (List.getElem?_eq_some_iff.mp hs).1
  have hP := R.npr n c a hs hl hi
  have at_ : ∀ {m : Nat} {d : Cell}, (s.set n .dead)[m]? = some d → d.live = true → m ≠ n ∧ s[m]? = some d := fun {m d} h l => by
    by_cases e : n = m
    · subst e
      rw [List.getElem?_set_self hn] at h
      cases h
      cases l
    · rw [List.getElem?_set_ne e] at h
      exact ⟨fun z => e z.symm, h⟩
  have g : Grow F ι (upd F a o) ι := grow_new hF o
  refine ⟨fun b u h => ?_, R.pro, fun b u h => ?_, by simp [R.len], fun m d b h1 h2 => ?_, fun m d b h1 l h2 => R.npr m d b (at_ h1 l).2 l h2, fun m k c1 c2 b h1 h2 l1 l2 h3 h4 => R.nod m k c1 c2 b (at_ h1 l1).2 (at_ h2 l2).2 l1 l2 h3 h4⟩
  · by_cases e : b = a
    · subst e; rw [upd_same] at h; cases h; exact hH
    · rw [upd_ne e] at h; exact R.sub b u h
  · rw [upd_ne (ne_of_none h hP)]; exact R.dis b u h
  · cases hd : d.live with
    | false =>
      cases d with
      | dead => trivial
      | _ => cases hd
    | true =>
      obtain ⟨hm, h1⟩ := at_ h1 hd
      refine (R.cell m d b h1 h2).grow g (fun l => upd_ne fun z => ?_) (fun _ => rfl)
      subst z
      exact hm (R.nod m n d c b h1 hs l hl h2 hi)
theorem lc_of (R : RelH T P ι F s H) {n : Nat} {a : Addr} {xs : List D} (hs : s[n]? = some (.lst xs)) (hi : ι[n]? = some a) : F a = none ∧ ∃ vs, H a = some (.lst vs) ∧ Rps T F ι xs vs := R.cell n _ a hs hi
end
/-- [..] as a cell -/
def dLstC (f : DA) : DE := fun δ s => (f δ s).bind fun xs s1 => if xs.length ≤ lim then .ok (.loc s1.length) (s1 ++ [.lst xs]) else .stuck
section
variable {T : Tb} {X : Cx}
theorem post_loc {P : Hp} {ι : List Addr} {F : Hp} {s : Sto} {H : Hp} {Q : V → Hp → Prop} {E : Nat → Hp → Prop} {p : Addr} {o : HO} {c : Cell} (post : Post T P (Rp T) Q E F ι (.ok (.loc s.length) (s ++ [c]))) (R : RelH T P ι F s H) (hp : H p = none)
    (hc : CellAt T (ι ++ [p]) F (upd H p o) p c) : Q (.ref p) (upd H p o) := by
  refine post (.ref p) _ _ _ (grow_app _ _ p) (R.alloc hp hc) ?_
  unfold Rp
  exact ⟨p, by rw [← R.len]; simp, rfl⟩
theorem d_lstC {es : List Expr} {pos : Pos} {f : DA} (h : PDa T X es f) : PDe T X (.List es pos) (dLstC f) := fun pn xe W tk => by
  obtain ⟨t1, p1, d1⟩ := h pn xe W tk
  refine ⟨_, pe_lst p1, fun σ H P ι F δ s Q R E post => ?_⟩
  show t1 σ H _
  refine den_then d1 R E post fun x y H1 ι1 F1 s1 g1 R1 E1 r1 post1 => ?_
  split at post1
  · rename_i hl
    refine ⟨by rw [← r1.1.len]; exact lim_le hl, fun p hp => post_loc post1 R1 hp ?_⟩
    exact ⟨R1.freeF hp, _, upd_same, r1.1.mono (grow_app _ _ _)⟩
  · exact post1.elim
/-- {}, not written -/
theorem d_dct0 {pos : Pos} : PDe T X (.Dict [] [] pos) (dC (.dct [] [])) := fun pn xe W tk => ⟨_, pe_dnewK, fun σ H P ι F δ s Q R E post p hp => by
  refine post.new R hp fun g => ?_
  unfold Rp
  exact ⟨p, [], rfl, .inl upd_same, rfl, .nil⟩⟩
/-! ## x[i] = e -/
def setAt (o i d : D) (s : Sto) : Option Sto := match o, i with
  | .loc n, .int k => match s[n]? with
    | some (.lst xs) => match ixN xs.length k with
      | some j => some (s.set n (.lst (xs.set j d)))
      | none => none
    | _ => none
  | _, _ => none
def sIxS (f fo fi : DE) : DS := fun δ s => (f δ s).out δ fun d s1 => (fo δ s1).out δ fun o s2 => (fi δ s2).out δ fun i s3 => match setAt o i d s3 with
  | some s4 => .nx δ s4
  | none => .stuck
theorem s_ixS {o i e : Expr} {tpos pos : Pos} {f fo fi : DE} (he : PDe T X e f) (ho : PDe T X o fo) (hi : PDe T X i fi)
    (ha : ∀ v, assign (.Subscript o i tpos) X.env v = (do
      let ov ← holding [v] (eval o X.env)
      let iv ← holding [v, ov] (eval i X.env)
      standAt tpos
      holding [v, ov, iv] (setItem ov iv v)
      release [v, ov, iv] []) := by intro _; rfl)
    (hs : swapsWithSole [.Subscript o i tpos] e pos.line X.env = pure false := by rfl) (hw : swappedStores [.Subscript o i tpos] e X.env = pure none := by rfl)
    (h1 : (assignEach [.Subscript o i tpos] X.env).map (·.2) = [assign (.Subscript o i tpos) X.env] := by rfl) : PDs T X (.Assign [.Subscript o i tpos] e pos) (sIxS f fo fi) := fun pn xe W tk _ => by
  obtain ⟨t1, p1, d1⟩ := he pn xe W tk
  obtain ⟨t2, p2, d2⟩ := ho pn xe W tk
  obtain ⟨t3, p3, d3⟩ := hi pn xe W tk
  refine ⟨_, ps_asg (X := X.tr pn xe) p1 (pg_sub (X := X.tr pn xe) p2 p3 set_list ha) hs hw h1, fun En σ H P ι F δ s R E post => ?_⟩
  show t1 σ H _
  refine dens_then d1 R E post fun x y H1 ι1 F1 s1 g1 R1 E1 r1 post1 => ?_
  show t2 σ H1 _
  refine dens_then d2 R1 E1 post1 fun x2 y2 H2 ι2 F2 s2 g2 R2 E2 r2 post2 => ?_
  refine dens_then d3 R2 E2 post2 fun x3 y3 H3 ι3 F3 s3 g3 R3 E3 r3 post3 => ?_
  have rx := (r1.mono g2).mono g3
  have ro := r2.mono g3
  cases q : setAt x2 x3 x s3 with
  | none => rw [q] at post3; exact post3.elim
  | some s4 =>
    rw [q] at post3
    unfold setAt at q
    split at q
    · rename_i n k
      split at q
      · rename_i xs hs3
        split at q
        · rename_i j hj
          cases q
          unfold Rp at ro r3
          obtain ⟨a, e1, rfl⟩ := ro
          obtain ⟨h1, vs, h2, h3⟩ := lc_of R3 hs3 e1
          refine ⟨a, vs, k, j, rfl, r3, h2, by rw [← h3.len]; exact hj, ?_⟩
          exact post3 σ _ ι3 F3 (Grow.refl _ _) (R3.setC hs3 rfl e1 ⟨h1, _, upd_same, Rps.set rx j h3⟩) E3
        · cases q
      · cases q
    · cases q
/-! ## a slot's cell stays as it is from now on -/
def frzD (s : Sto) : D → Option (D × Sto)
  | .loc n => match s[n]? with
    | some (.lst xs) => some (.lst xs, s.set n .dead)
    | some (.dct ks xs) => some (.dct ks xs, s.set n .dead)
    | some (.obj c ns xs) => some (.obj c ns xs, s.set n .dead)
    | _ => none
  | d => some (d, s)
def sFrz (i : Nat) : DS := fun δ s => match δ[i]? with
  | some (some d) => match frzD s d with
    | some (d', s') => .nx (δ.set i (some d')) s'
    | none => .nx δ s
  | _ => .nx δ s
theorem frz_ok {P : Hp} {ι : List Addr} {F : Hp} {s s' : Sto} {H : Hp} {d d' : D} {v : V} (R : RelH T P ι F s H) (r : Rp T F ι d v) (h : frzD s d = some (d', s')) : ∃ F', Grow F ι F' ι ∧ RelH T P ι F' s' H ∧ Rp T F' ι d' v := by
  unfold frzD at h
  split at h
  · rename_i n
    unfold Rp at r
    obtain ⟨a, e1, rfl⟩ := r
    split at h
    · rename_i xs hs
      cases h
      obtain ⟨h1, vs, h2, h3⟩ := R.cell _ _ _ hs e1
      refine ⟨upd F a (.lst vs), grow_new h1 _, R.freeze hs rfl e1 h1 h2, ?_⟩
      unfold Rp
      exact ⟨a, vs, rfl, upd_same, h3.mono (grow_new h1 _)⟩
    · rename_i ks xs hs
      cases h
      obtain ⟨h1, kvs, h2, h3, h4⟩ := R.cell _ _ _ hs e1
      refine ⟨upd F a (.dK kvs), grow_new h1 _, R.freeze hs rfl e1 h1 h2, ?_⟩
      unfold Rp
      exact ⟨a, kvs, rfl, .inl upd_same, h3, h4.mono (grow_new h1 _)⟩
    · rename_i c ns xs hs
      cases h
      obtain ⟨h1, dx, fs, h2, h3, h4⟩ := R.cell _ _ _ hs e1
      refine ⟨upd F a (.ins (T.ca c) dx fs), grow_new h1 _, R.freeze hs rfl e1 h1 h2, ?_⟩
      unfold Rp
      exact ⟨a, dx, fs, rfl, upd_same, h3, h4.mono (grow_new h1 _)⟩
    · cases h
  · cases h
    exact ⟨F, Grow.refl _ _, R, r⟩
/-- ahead of the rest of a block -/
theorem b_frz {rest : List Stmt} {g : DS} (i : Nat) (h : PDb T X rest g) : PDb T X rest (sSeq (sFrz i) g) := fun pn xe W tk ow => by
  obtain ⟨t1, p1, d1⟩ := h pn xe W tk ow
  refine ⟨t1, p1, fun En σ H P ι F δ s R E post => ?_⟩
  unfold sSeq sFrz at post
  cases q : δ[i]? with
  | none => rw [q] at post; exact d1 _ _ _ _ _ _ _ _ R E post
  | some o =>
    cases o with
    | none => rw [q] at post; exact d1 _ _ _ _ _ _ _ _ R E post
    | some d =>
      rw [q] at post
      dsimp only at post
      cases hz : frzD s d with
      | none => rw [hz] at post; exact d1 _ _ _ _ _ _ _ _ R E post
      | some z =>
        obtain ⟨d', s'⟩ := z
        rw [hz] at post
        obtain ⟨v, e1, e2⟩ := E.at_ i d q
        obtain ⟨F', g', R', r'⟩ := frz_ok R e2 hz
        have E' := (E.mono g').set r' i
        have hl := (List.getElem?_eq_some_iff.mp e1).1
        have es : σ.set i (some v) = σ := by
          refine List.ext_getElem? fun j => ?_
          by_cases c : i = j
          · subst c; rw [List.getElem?_set_self hl, e1]
          · rw [List.getElem?_set_ne c]
        rw [es] at E'
        exact d1 _ _ _ _ _ _ _ _ R' E' (PostS.mono g' post)
/-! ## o.m(..) of a built-in's method -/
abbrev DM := D → List D → Sto → Res D
def recvTy (s : Sto) : D → Option String
  | .str _ => some "str"
  | .int _ => some "int"
  | .lst _ => some "list"
  | .scr _ => some "list"
  | .loc n => match s[n]? with
    | some (.lst _) => some "list"
    | some (.dct _ _) => some "dict"
    | _ => none
  | _ => none
def DenM (T : Tb) (r : V → List V → Hp → VK → Prop) (op : DM) : Prop := ∀ d ds v vs H P ι F s Q E, RelH T P ι F s H → Rp T F ι d v → Rps T F ι ds vs → Post T P (Rp T) Q E F ι (op d ds s) → r v vs H Q
def dMt (ty : String) (op : DM) (f : DE) (fa : DA) : DE := fun δ s => (f δ s).bind fun x s1 => if recvTy s1 x = some ty then (fa δ s1).bind fun xs s2 => op x xs s2 else .stuck
theorem tyV_of {P : Hp} {ι : List Addr} {F : Hp} {s : Sto} {H : Hp} {d : D} {v : V} {ty : String} (R : RelH T P ι F s H) (r : Rp T F ι d v) (h : recvTy s d = some ty) : tyV T.K ty v H := by
  unfold recvTy at h
  split at h
  · unfold Rp at r; subst r; cases h; rfl
  · unfold Rp at r; subst r; cases h; rfl
  · unfold Rp at r
    obtain ⟨a, vs, rfl, e, _⟩ := r
    cases h
    exact .inl ⟨rfl, vs, SqL.of (R.sub _ _ e)⟩
  · unfold Rp at r
    obtain ⟨a, rfl, e⟩ := r
    cases h
    exact .inl ⟨rfl, _, sql_mono R.sub e⟩
  · unfold Rp at r
    obtain ⟨a, e1, rfl⟩ := r
    split at h
    · rename_i xs hs
      cases h
      obtain ⟨_, vs, h2, _⟩ := R.cell _ _ _ hs e1
      exact .inl ⟨rfl, vs, SqL.of h2⟩
    · rename_i ks xs hs
      cases h
      obtain ⟨_, kvs, h2, _⟩ := R.cell _ _ _ hs e1
      exact .inr (.inr (.inl ⟨rfl, .inl ⟨kvs, h2⟩⟩))
    · cases h
  · cases h
theorem d_mt {o e : Expr} {es : List Expr} {name : Str} {apos cpos : Pos} {ty id : String} {r : V → List V → Hp → VK → Prop} {op : DM} {f : DE} {fa : DA} (pa : PlainAttrs ty) (slot : Slot ty name id) (hty : typeOf (.builtin id) = pure (.type "method_descriptor")) (hm : ∀ pn xe, MtR (X.tr pn xe) id r) (hr : DenM T r op)
    (ho : PDe T X o f) (ha : PDa T X (e :: es) fa) (hbase : attributeBase o name X.env (eval o X.env) = eval o X.env := by rfl)
    (hfew : ((backTo cpos (starEach (e :: es) X.env)).all (fun x => !x.1) && (backToKw cpos (keywordEach [] X.env)).all (fun x => x.1.isSome)
      && decide ((e :: es).length + ([] : List Keyword).length + (if ([] : List Keyword).isEmpty then 0 else 1) < 30)) = true := by rfl)
    (hline : (apos.endLine == cpos.line) = true := by rfl) (hs : starEach (e :: es) X.env = (false, eval e X.env) :: starEach es X.env := by rfl) (hplain : (backTo cpos (starEach es X.env)).any (·.1) = false := by rfl) (hK : X.K = T.K := by rfl) :
    PDe T X (.Call (.Attribute o name apos) (e :: es) [] cpos) (dMt ty op f fa) := fun pn xe W tk => by
  obtain ⟨t1, p1, d1⟩ := ho pn xe W tk
  obtain ⟨t2, p2, d2⟩ := ha pn xe W tk
  have hK' : (X.tr pn xe).K = T.K := hK
  refine ⟨_, pe_bm (X := X.tr pn xe) pa slot hty (hm pn xe) p1 p2 hbase hfew hline hs hplain, fun σ H P ι F δ s Q R E post => ?_⟩
  rw [hK']
  show t1 σ H _
  refine den_then d1 R E post fun x y H1 ι1 F1 s1 g1 R1 E1 r1 post1 => ?_
  split at post1
  · rename_i ht
    refine ⟨tyV_of R1 r1 ht, ?_⟩
    refine den_then d2 R1 E1 post1 fun xs ys H2 ι2 F2 s2 g2 R2 E2 r2 post2 => ?_
    exact hr _ _ _ _ _ _ _ _ _ _ _ R2 (r1.mono g2) r2.1 post2
  · exact post1.elim
theorem d_mt0 {o : Expr} {name : Str} {apos cpos : Pos} {ty id : String} {r : V → List V → Hp → VK → Prop} {op : DM} {f : DE} (pa : PlainAttrs ty) (slot : Slot ty name id) (hty : typeOf (.builtin id) = pure (.type "method_descriptor")) (hm : ∀ pn xe, MtR (X.tr pn xe) id r) (hr : DenM T r op)
    (ho : PDe T X o f) (hbase : attributeBase o name X.env (eval o X.env) = eval o X.env := by rfl) (hline : (apos.endLine == cpos.line) = true := by rfl) (hK : X.K = T.K := by rfl) :
    PDe T X (.Call (.Attribute o name apos) [] [] cpos) (dMt ty op f aNil) := fun pn xe W tk => by
  obtain ⟨t1, p1, d1⟩ := ho pn xe W tk
  have hK' : (X.tr pn xe).K = T.K := hK
  refine ⟨_, pe_bm0 (X := X.tr pn xe) pa slot hty (hm pn xe) p1 hbase hline, fun σ H P ι F δ s Q R E post => ?_⟩
  rw [hK']
  show t1 σ H _
  refine den_then d1 R E post fun x y H1 ι1 F1 s1 g1 R1 E1 r1 post1 => ?_
  split at post1
  · rename_i ht
    exact ⟨tyV_of R1 r1 ht, hr _ _ _ _ _ _ _ _ _ _ _ R1 r1 .nil post1⟩
  · exact post1.elim
end
/-! ## lists' methods -/
def mAppend : DM
  | .loc n, [d], s => match s[n]? with
    | some (.lst xs) => if xs.length < lim then .ok .non (s.set n (.lst (xs ++ [d]))) else .stuck
    | _ => .stuck
  | _, _, _ => .stuck
def mIndex : DM
  | x, [y], s => match lqOf s x with
    | some xs => if (flatD y && xs.all flatD) = true then match xs.findIdx? (fun z => eqF z y) with
      | some j => .ok (.int (j : Nat)) s
      | none => .stuck
      else .stuck
    | none => .stuck
  | _, _, _ => .stuck
def mCount : DM
  | x, [y], s => match lqOf s x with
    | some xs => if (flatD y && xs.all flatD) = true then .ok (.int (xs.countP (fun z => eqF z y) : Nat)) s else .stuck
    | none => .stuck
  | _, _, _ => .stuck
def rCntF (K : PySem.W.Frag) : V → List V → Hp → VK → Prop := fun x xs H Q => ∃ (a : Addr) (ys : List V) (y : V), x = V.ref a ∧ xs = [y] ∧ SqL K H a ys ∧ flatV y = true ∧ ys.all flatV = true ∧ Q (.int (ys.countP fun z => eqV z y : Nat)) H
theorem cnt_eq {y : V} (fy : flatV y = true) : ∀ {ys : List V} {us : List Value}, Vals ys us → ys.all flatV = true → us.countP (eqU y) = ys.countP fun z => eqV z y
  | _, _, .nil, _ => rfl
  | z :: ys, u :: us, .cons r t, f => by
    rw [List.all_cons, Bool.and_eq_true] at f
    rw [List.countP_cons, List.countP_cons, cnt_eq fy t f.2, eqU_of r f.1]
theorem mt_lcntF {X : Cx} : MtR X "list.count" (rCntF X.K) := by
  intro pins s σ H x xs v us Q I rx rxs h
  obtain ⟨a, ys, y, rfl, rfl, hs, fy, fys, q⟩ := h
  cases rx
  obtain ⟨uy, rfl, ry⟩ := rxs.one
  obtain ⟨its, rv, ⟨⟨cls, dd, data, sl⟩, n, ho, hc, hdn, hd⟩, hlen⟩ := I.list hs
  simp only at hc hd
  subst hc hd
  refine PySem.call_meets PySem.F.slot_list_count ⟨_, ho, rfl⟩ PySem.F.entry_list_count (PySem.F.args_list_count_2 _ _)
    (SeqAt.list_countAt a its.toArray n dd sl uy (eqU y)) ⟨ho, fun u hu => mem_eqAt ry fy rv fys u (by simpa using hu), ?_⟩
  have ec : its.toArray.toList.countP (eqU y) = ys.countP fun z => eqV z y := by
    rw [List.toList_toArray]; exact cnt_eq fy rv fys
  refine ⟨.int (ys.countP fun z => eqV z y : Nat), H, I.tok _, ⟨s.toks, ?_⟩, q⟩
  show Value.int ((its.toArray.toList.countP (eqU y) : Nat) : Int) s.toks = Value.int ((ys.countP fun z => eqV z y : Nat) : Int) s.toks
  rw [ec]
section
variable {T : Tb}
theorem flats_ok {F : Hp} {ι : List Addr} : ∀ {ds : List D} {vs : List V}, Rps T F ι ds vs → ds.all flatD = true → vs.all flatV = true
  | [], vs, q, _ => by unfold Rps at q; subst q; rfl
  | d :: ds, vs, q, k => by
    unfold Rps at q
    obtain ⟨u, us, rfl, q1, q2⟩ := q
    rw [List.all_cons, Bool.and_eq_true] at k
    rw [List.all_cons, flat_ok q1 k.1, flats_ok q2 k.2]; rfl
theorem cntF_ok {F : Hp} {ι : List Addr} {x : D} {v : V} (r : Rp T F ι x v) (h : flatD x = true) : ∀ {ds : List D} {vs : List V}, Rps T F ι ds vs → ds.all flatD = true → (vs.countP fun z => eqV z v) = ds.countP fun z => eqF z x
  | [], vs, q, _ => by unfold Rps at q; subst q; rfl
  | d :: ds, vs, q, k => by
    unfold Rps at q
    obtain ⟨u, us, rfl, q1, q2⟩ := q
    rw [List.all_cons, Bool.and_eq_true] at k
    rw [List.countP_cons, List.countP_cons, cntF_ok r h q2 k.2, eqF_ok q1 r k.1 h]
theorem dm_append : DenM T rAppend mAppend := by
  intro d ds v vs H P ι F s Q E R r rs post
  unfold mAppend at post
  split at post
  · rename_i n d' _
    obtain ⟨u, rfl, h1⟩ := rps1 rs
    unfold Rp at r
    obtain ⟨a, e1, rfl⟩ := r
    split at post
    · rename_i xs hs
      split at post
      · rename_i hl
        obtain ⟨h2, us, h3, h4⟩ := lc_of R hs e1
        refine ⟨a, us, u, rfl, rfl, h3, by rw [← h4.len]; exact lim_lt (Nat.le_of_lt hl), ?_⟩
        exact post .non _ ι F (Grow.refl _ _) (R.setC hs rfl e1 ⟨h2, _, upd_same, h4.app (.cons h1 .nil)⟩) (by unfold Rp; rfl)
      · exact post.elim
    · exact post.elim
  · exact post.elim
theorem dm_index : DenM T (rIndex T.K) mIndex := by
  intro d ds v vs H P ι F s Q E R r rs post
  unfold mIndex at post
  split at post
  · obtain ⟨u, rfl, h1⟩ := rps1 rs
    split at post
    · rename_i xs h
      obtain ⟨a, us, rfl, h2, h3⟩ := lq_of R r h
      split at post
      · rename_i hf
        simp only [Bool.and_eq_true] at hf
        split at post
        · rename_i j hj
          rw [List.findIdx?_eq_some_iff_getElem] at hj
          obtain ⟨hj1, hj2, hj3⟩ := hj
          have hd : xs[j]? = some xs[j] := List.getElem?_eq_getElem hj1
          obtain ⟨w, e1, e2⟩ := h3.get hd
          have fd : ∀ {m : Nat} (hm : m < xs.length), flatD xs[m] = true := fun {m} hm => List.all_eq_true.mp hf.2 _ (List.getElem_mem hm)
          refine ⟨a, us, u, j, w, rfl, rfl, h2, flat_ok h1 hf.1, flats_ok h3 hf.2, e1, by rw [eqF_ok e2 h1 (fd hj1) hf.1]; exact hj2, fun m z' hm hz => ?_, post.here R (by unfold Rp; rfl)⟩
          have hm' : m < xs.length := by omega
          obtain ⟨w2, e3, e4⟩ := h3.get (List.getElem?_eq_getElem hm')
          rw [hz] at e3
          cases e3
          rw [eqF_ok e4 h1 (fd hm') hf.1]
          have := hj3 m hm
          simpa using this
        · exact post.elim
      · exact post.elim
    · exact post.elim
  · exact post.elim
theorem dm_count : DenM T (rCntF T.K) mCount := by
  intro d ds v vs H P ι F s Q E R r rs post
  unfold mCount at post
  split at post
  · obtain ⟨u, rfl, h1⟩ := rps1 rs
    split at post
    · rename_i xs h
      obtain ⟨a, us, rfl, h2, h3⟩ := lq_of R r h
      split at post
      · rename_i hf
        simp only [Bool.and_eq_true] at hf
        refine ⟨a, us, u, rfl, rfl, h2, flat_ok h1 hf.1, flats_ok h3 hf.2, ?_⟩
        rw [cntF_ok h1 hf.1 h3 hf.2]
        exact post.here R (by unfold Rp; rfl)
      · exact post.elim
    · exact post.elim
  · exact post.elim
/-! ## texts' methods -/
def un (x : Str) : List Nat := x.cps.toList
theorem S_un (x : Str) : S (un x) = x := by
  obtain ⟨a⟩ := x
  simp [S, un]
/-- of a text and a whole number, of a text and a text, of a text alone -/
def mTxtI (c : List Nat → Int → Bool) (g : Str → Int → Str) : DM
  | .str a, [.int i], s => if c a i = true then .ok (.str (un (g (S a) i))) s else .stuck
  | _, _, _ => .stuck
def mZfill : DM := mTxtI (fun _ i => PadOk i) Txt.zfill
theorem dm_zfill : DenM T (fun x xs H Q => ∃ (a : Str) (i : Int), x = .str a ∧ xs = [.int i] ∧ PadOk i = true ∧ Q (.str (Txt.zfill a i)) H) mZfill := by
  intro d ds v vs H P ι F s Q E R r rs post
  unfold mZfill mTxtI at post
  split at post
  · obtain ⟨u, rfl, h1⟩ := rps1 rs
    unfold Rp at r h1
    split at post
    · rename_i hp
      exact ⟨_, _, r, by rw [h1], hp, post.here R (by unfold Rp; rw [S_un])⟩
    · exact post.elim
  · exact post.elim
/-- text.index(text) -/
def mSIndex : DM
  | .str a, [.str b], s => match Builtin.Str.occurrences (S a) (S b) 0 (S a).length 1 with
    | i :: _ => .ok (.int (i : Nat)) s
    | [] => .stuck
  | _, _, _ => .stuck
theorem dm_sindex : DenM T (fun x xs H Q => ∃ a b i rest, x = .str a ∧ xs = [.str b] ∧ Builtin.Str.occurrences a b 0 a.length 1 = i :: rest ∧ Q (.int (i : Nat)) H) mSIndex := by
  intro d ds v vs H P ι F s Q E R r rs post
  unfold mSIndex at post
  split at post
  · obtain ⟨u, rfl, h1⟩ := rps1 rs
    unfold Rp at r h1
    split at post
    · rename_i i rest ho
      exact ⟨_, _, i, rest, r, by rw [h1], ho, post.here R (by unfold Rp; rfl)⟩
    · exact post.elim
  · exact post.elim
def mFind : DM
  | .str a, [.str b], s => .ok (.int (Txt.find (S a) (S b))) s
  | _, _, _ => .stuck
theorem dm_find : DenM T (fun x xs H Q => ∃ a b, x = .str a ∧ xs = [.str b] ∧ Q (.int (Txt.find a b)) H) mFind := by
  intro d ds v vs H P ι F s Q E R r rs post
  unfold mFind at post
  split at post
  · obtain ⟨u, rfl, h1⟩ := rps1 rs
    unfold Rp at r h1
    exact ⟨_, _, r, by rw [h1], post.here R (by unfold Rp; rfl)⟩
  · exact post.elim
def mStarts : DM
  | .str a, [.str b], s => .ok (.bl (Txt.startswith (S a) (S b))) s
  | _, _, _ => .stuck
theorem dm_starts : DenM T (fun x xs H Q => ∃ a b, x = .str a ∧ xs = [.str b] ∧ Q (.bl (Txt.startswith a b)) H) mStarts := by
  intro d ds v vs H P ι F s Q E R r rs post
  unfold mStarts at post
  split at post
  · obtain ⟨u, rfl, h1⟩ := rps1 rs
    unfold Rp at r h1
    exact ⟨_, _, r, by rw [h1], post.here R (by unfold Rp; rfl)⟩
  · exact post.elim
def mPart : DM
  | .str a, [.str b], s => if (!(b.length == 0) && decide (a.length ≤ lim)) = true then .ok (.tup [.str (un (Txt.partition (S a) (S b)).1), .str (un (Txt.partition (S a) (S b)).2.1), .str (un (Txt.partition (S a) (S b)).2.2)]) s else .stuck
  | _, _, _ => .stuck
theorem dm_part : DenM T (fun x xs H Q => ∃ a b, x = .str a ∧ xs = [.str b] ∧ (b.length == 0) = false ∧ a.length ≤ sizeLine ∧
    ∀ p, H p = none → Q (.ref p) (upd H p (.tup [.str (Txt.partition a b).1, .str (Txt.partition a b).2.1, .str (Txt.partition a b).2.2]))) mPart := by
  intro d ds v vs H P ι F s Q E R r rs post
  unfold mPart at post
  split at post
  · obtain ⟨u, rfl, h1⟩ := rps1 rs
    unfold Rp at r h1
    split at post
    · rename_i hc
      simp only [Bool.and_eq_true, Bool.not_eq_true', decide_eq_true_eq] at hc
      refine ⟨_, _, r, by rw [h1], by rw [S_len]; exact hc.1, by rw [S_len]; exact lim_le hc.2, fun p hp => ?_⟩
      refine post.new R hp fun g => ?_
      unfold Rp
      refine ⟨p, _, rfl, upd_same, .cons ?_ (.cons ?_ (.cons ?_ .nil))⟩ <;> (unfold Rp; rw [S_un])
    · exact post.elim
  · exact post.elim
def mRepl : DM
  | .str a, [.str b, .str c], s => .stuck
  | _, _, _ => .stuck
def strsOf : List D → Option (List (List Nat))
  | [] => some []
  | .str x :: r => (strsOf r).map (x :: ·)
  | _ => none
theorem strs_ok {F : Hp} {ι : List Addr} : ∀ {ds : List D} {vs : List V} {ys : List (List Nat)}, Rps T F ι ds vs → strsOf ds = some ys → vs = (ys.map S).map V.str
  | [], vs, ys, r, e => by unfold Rps at r; subst r; cases e; rfl
  | d :: ds, vs, ys, r, e => by
    unfold Rps at r
    obtain ⟨v, us, rfl, h1, h2⟩ := r
    cases d with
    | str x =>
      have e' : (strsOf ds).map (x :: ·) = some ys := e
      cases q : strsOf ds with
      | none => rw [q] at e'; cases e'
      | some cs =>
        rw [q] at e'
        cases e'
        unfold Rp at h1
        rw [h1, strs_ok h2 q]
        rfl
    | _ => cases e
def mJoin : DM
  | .str a, [x], s => match (lqOf s x).or (tpOf x) with
    | some xs => match strsOf xs with
      | some ys => if (ys.map List.length).sum + ys.length * a.length ≤ lim then .ok (.str (un (Txt.join (S a) (ys.map S)))) s else .stuck
      | none => .stuck
    | none => .stuck
  | _, _, _ => .stuck
theorem dm_join : DenM T (fun x xs H Q => ∃ a p, ∃ ys : List Str, x = .str a ∧ xs = [.ref p] ∧ (SqL T.K H p (ys.map V.str) ∨ SqT T.K H p (ys.map V.str)) ∧
    (ys.map (·.length)).sum + ys.length * a.length ≤ 16777216 ∧ Q (.str (Txt.join a ys)) H) mJoin := by
  intro d ds v vs H P ι F s Q E R r rs post
  unfold mJoin at post
  split at post
  · obtain ⟨u, rfl, h1⟩ := rps1 rs
    unfold Rp at r
    split at post
    · rename_i xs h
      split at post
      · rename_i ys hy
        split at post
        · rename_i hl
          obtain ⟨a, us, rfl, h2, h3⟩ := lqtp_of R h1 h
          rw [strs_ok h3 hy] at h2
          refine ⟨_, a, ys.map S, r, rfl, h2, ?_, post.here R (by unfold Rp; rw [S_un])⟩
          have e1 : ((ys.map S).map (·.length)) = ys.map List.length := by
            rw [List.map_map]
            exact List.map_congr_left fun y _ => S_len y
          rw [e1, List.length_map, S_len]
          exact Nat.le_trans hl (by unfold lim; decide)
        · exact post.elim
      · exact post.elim
    · exact post.elim
  · exact post.elim
theorem rps_strs {F : Hp} {ι : List Addr} : ∀ (ys : List Str), Rps T F ι (ys.map fun y => D.str (un y)) (ys.map V.str)
  | [] => .nil
  | y :: ys => .cons (by unfold Rp; rw [S_un]) (rps_strs ys)
def mSplit : DM
  | .str a, [.str b], s => if (!(b.length == 0) && decide (a.length + 2 ≤ lim)) = true then .ok (.lst ((Txt.split (S a) (S b)).map fun y => D.str (un y))) s else .stuck
  | .str a, [], s => if a.length + 2 ≤ lim then .ok (.lst ((Txt.words (S a)).map fun y => D.str (un y))) s else .stuck
  | _, _, _ => .stuck
theorem new_strs {P : Hp} {ι : List Addr} {F : Hp} {s : Sto} {H : Hp} {Q : VK} {E : Nat → Hp → Prop} {ys : List Str} (R : RelH T P ι F s H) (post : Post T P (Rp T) Q E F ι (.ok (.lst (ys.map fun y => D.str (un y))) s)) : rNewStrs ys H Q := fun p hp => by
  refine post.new R hp fun g => ?_
  unfold Rp
  exact ⟨p, _, rfl, upd_same, rps_strs ys⟩
theorem dm_split : DenM T (fun x xs H Q => ∃ a b, x = .str a ∧ xs = [.str b] ∧ (b.length == 0) = false ∧ a.length + 2 ≤ sizeLine ∧ rNewStrs (Txt.split a b) H Q) (fun x ds s => match ds with | [] => .stuck | _ => mSplit x ds s) := by
  intro d ds v vs H P ι F s Q E R r rs post
  dsimp only at post
  split at post
  · exact post.elim
  · unfold mSplit at post
    split at post
    · obtain ⟨u, rfl, h1⟩ := rps1 rs
      unfold Rp at r h1
      split at post
      · rename_i hc
        simp only [Bool.and_eq_true, Bool.not_eq_true', decide_eq_true_eq] at hc
        exact ⟨_, _, r, by rw [h1], by rw [S_len]; exact hc.1, by rw [S_len]; exact lim_le hc.2, new_strs R post⟩
      · exact post.elim
    · rename_i hne
      exact absurd rfl hne
    · exact post.elim
theorem dm_words : DenM T (fun x xs H Q => ∃ a, x = .str a ∧ xs = [] ∧ a.length + 2 ≤ sizeLine ∧ rNewStrs (Txt.words a) H Q) (fun x ds s => match ds with | [] => mSplit x [] s | _ => .stuck) := by
  intro d ds v vs H P ι F s Q E R r rs post
  dsimp only at post
  split at post
  · unfold mSplit at post
    split at post
    · rename_i h
      cases h
    · unfold Rps at rs
      unfold Rp at r
      split at post
      · rename_i hc
        exact ⟨_, r, rs, by rw [S_len]; exact lim_le hc, new_strs R post⟩
      · exact post.elim
    · exact post.elim
  · exact post.elim
def mStrip : DM
  | .str a, [], s => if a.length ≤ lim then .ok (.str (un (Txt.strip (S a)))) s else .stuck
  | _, _, _ => .stuck
theorem dm_strip : DenM T (fun x xs H Q => ∃ a, x = .str a ∧ xs = [] ∧ a.length ≤ sizeLine ∧ Q (.str (Txt.strip a)) H) mStrip := by
  intro d ds v vs H P ι F s Q E R r rs post
  unfold mStrip at post
  split at post
  · unfold Rps at rs
    unfold Rp at r
    split at post
    · rename_i hc
      exact ⟨_, r, rs, by rw [S_len]; exact lim_le hc, post.here R (by unfold Rp; rw [S_un])⟩
    · exact post.elim
  · exact post.elim
/-! ## int, str, divmod -/
def bInt : DB
  | [.int i], s => .ok (.int i) s
  | [.bl b], s => .ok (.int (if b then 1 else 0)) s
  | [.str z], s => match PySem.intText? (S z) with
    | some n => if z.length ≤ 640 then .ok (.int n) s else .stuck
    | none => .stuck
  | _, _ => .stuck
def rIntA : List V → Hp → VK → Prop := fun xs H Q => ((∃ i, xs = [.int i] ∧ Q (.int i) H) ∨ ∃ k, xs = [.bl k] ∧ Q (.int (if k then 1 else 0)) H) ∨ (∃ a n, xs = [.str a] ∧ PySem.intText? a = some n ∧ a.length ≤ 640 ∧ Q (.int n) H)
theorem call_intA {X : Cx} : CallR X (.type "int") rIntA := CallR.or call_int1 call_int_str
theorem db_int : DenB T rIntA bInt := by
  intro ds vs H P ι F s Q E R r post
  unfold bInt at post
  split at post
  · obtain ⟨v, rfl, h1⟩ := rps1 r
    unfold Rp at h1
    exact .inl (.inl ⟨_, by rw [h1], post.here R (by unfold Rp; rfl)⟩)
  · obtain ⟨v, rfl, h1⟩ := rps1 r
    unfold Rp at h1
    exact .inl (.inr ⟨_, by rw [h1], post.here R (by unfold Rp; rfl)⟩)
  · obtain ⟨v, rfl, h1⟩ := rps1 r
    unfold Rp at h1
    split at post
    · rename_i n hn
      split at post
      · rename_i hl
        exact .inr ⟨_, _, by rw [h1], hn, by rw [S_len]; exact hl, post.here R (by unfold Rp; rfl)⟩
      · exact post.elim
    · exact post.elim
  · exact post.elim
def strI (i : Int) : List Nat := un (toString i : Str)
def bStr : DB
  | [.int i], s => if i.natAbs.log2 < 1920 then .ok (.str (strI i)) s else .stuck
  | _, _ => .stuck
theorem db_str : DenB T (fun xs H Q => ∃ i, xs = [.int i] ∧ i.natAbs.log2 < 1920 ∧ Q (.str (toString i)) H) bStr := by
  intro ds vs H P ι F s Q E R r post
  unfold bStr at post
  split at post
  · obtain ⟨v, rfl, h1⟩ := rps1 r
    unfold Rp at h1
    split at post
    · rename_i hl
      exact ⟨_, by rw [h1], hl, post.here R (by unfold Rp strI; rw [S_un])⟩
    · exact post.elim
  · exact post.elim
def bDivmod : DB
  | [.int i, .int j], s => if (decide (0 < j) && decide (j < 1073741824)) = true then .ok (.tup [.int (i / j), .int (i % j)]) s else .stuck
  | _, _ => .stuck
theorem db_divmod : DenB T (fun xs H Q => ∃ i j, xs = [.int i, .int j] ∧ CDiv i j ∧ ∀ p, H p = none → Q (.ref p) (upd H p (.tup [.int (i / j), .int (i % j)]))) bDivmod := by
  intro ds vs H P ι F s Q E R r post
  unfold bDivmod at post
  split at post
  · obtain ⟨v, u, rfl, h1, h2⟩ := rps2 r
    unfold Rp at h1 h2
    split at post
    · rename_i hc
      simp only [Bool.and_eq_true, decide_eq_true_eq] at hc
      refine ⟨_, _, by rw [h1, h2], hc, fun p hp => ?_⟩
      refine post.new R hp fun g => ?_
      unfold Rp
      exact ⟨p, _, rfl, upd_same, .cons (by unfold Rp; rfl) (.cons (by unfold Rp; rfl) .nil)⟩
    · exact post.elim
  · exact post.elim
/-! ## over a text -/
theorem walks_str {F : Hp} {ι : List Addr} (z : List Nat) : Walks T (Its (S z)) (z.map fun c => D.str [c]) F ι := by
  have w := walk_str (z := S z)
  unfold Walks
  have e0 : (S z).cps.size = z.length := by simp [S]
  rw [e0] at w
  rw [List.length_map]
  refine w.mono (fun H hF => trivial) fun i H x H' hi hF y => ?_
  obtain ⟨e1, c, e2, e3⟩ := y
  have e4 : z[i]? = some c := by simpa [S] using e2
  exact ⟨.str [c], by rw [List.getElem?_map, e4]; rfl, .inl ⟨e1, by unfold Rp; rw [e3]; rfl⟩⟩
/-- a list, a tuple, a text that stays -/
def itAny (f : DE) : DIt := fun δ s => (f δ s).bind fun x s1 => match x with
  | .lst xs => .ok xs s1
  | .scr ns => .ok (ns.map D.int) s1
  | .tup xs => .ok xs s1
  | .str z => .ok (z.map fun c => D.str [c]) s1
  | _ => .stuck
theorem den_iS {W : WX} {t : TE} {f : DE} (h : DenG T (Rp T) W t f) {σ : L2.St} {H P : Hp} {ι : List Addr} {F : Hp} {δ : Env} {s : Sto} {Q : It → Hp → Prop} (R : RelH T P ι F s H) (E : REnv T F ι δ σ)
    (post : Post T P (fun F ι ds J => Walks T J ds F ι) Q (fun c H' => W (.ref (T.ca c)) none σ H') F ι ((f δ s).bind fun x s1 => match x with
      | .str z => .ok (z.map fun c => D.str [c]) s1
      | _ => .stuck)) : iStr t σ H Q := by
  show t σ H _
  refine den_then h R E post fun x y H1 ι1 F1 s1 g R1 E1 r1 post1 => ?_
  cases x with
  | str z =>
    unfold Rp at r1
    exact ⟨S z, r1, post1.here R1 (walks_str z)⟩
  | _ => exact post1.elim
theorem i_any {X : Cx} {tg e : Expr} {f : DE} (h : PDe T X e f) (hK : X.K = T.K := by rfl) : PDi T X tg e (itAny f) := fun pn xe W tk => by
  obtain ⟨t1, p1, d1⟩ := h pn xe W tk
  have hK' : (X.tr pn xe).K = T.K := hK
  refine ⟨_, PI.or (PI.or (pi_list p1) (pi_tup p1)) (pi_str p1), fun σ H P ι F δ s Q R E post => ?_⟩
  rw [hK']
  unfold itAny at post
  cases e : f δ s with
  | ok x s1 =>
    rw [e] at post
    cases x with
    | lst xs => exact .inl (.inl (den_iL d1 R E (by rw [e]; exact post)))
    | scr ns => exact .inl (.inl (den_iL d1 R E (by rw [e]; exact post)))
    | tup xs => exact .inl (.inr (den_iT d1 R E (by rw [e]; exact post)))
    | str z => exact .inr (den_iS d1 R E (by rw [e]; exact post))
    | _ => exact post.elim
  | exc c s1 => rw [e] at post; exact .inl (.inl (den_iL d1 R E (by rw [e]; exact post)))
  | stuck => rw [e] at post; exact post.elim
/-! ## in, of lists, tuples and texts -/
def oInA (neg : Bool) : DOp
  | .str [c], .str z, s => .ok (.bl (neg != decide (c ∈ z))) s
  | x, y, s => oIn neg x y s
theorem do_inA : DenOp T (orR rInS (rIn T.K false)) (oInA false) := by
  intro x y dx dy H P ι F s Q E R rx ry post
  unfold oInA at post
  split at post
  · exact .inl (do_inS x y _ _ H P ι F s Q E R rx ry post)
  · exact .inr (do_in x y _ _ H P ι F s Q E R rx ry post)
theorem do_notInA : DenOp T (orR rNotInS (rIn T.K true)) (oInA true) := by
  intro x y dx dy H P ι F s Q E R rx ry post
  unfold oInA at post
  split at post
  · exact .inl (do_notInS x y _ _ H P ι F s Q E R rx ry post)
  · exact .inr (do_in x y _ _ H P ι F s Q E R rx ry post)
theorem op_inA {X : Cx} : OpR X (compareOp .In) (orR rInS (rIn X.K false)) := OpR.or op_in_sign op_in_seq
theorem op_notInA {X : Cx} : OpR X (compareOp .NotIn) (orR rNotInS (rIn X.K true)) := OpR.or op_notIn_sign op_notIn_seq
/-! ## f-strings of texts and whole numbers -/
def dFmt (f : DE) : DE := fun δ s => (f δ s).bind fun x s1 => match x with
  | .str z => if z.length ≤ lim then .ok (.str z) s1 else .stuck
  | .int i => if i.natAbs.log2 < 1920 then .ok (.str (strI i)) s1 else .stuck
  | _ => .stuck
def dJs : List DE → List Nat → DE
  | [], acc, _, s => .ok (.str acc) s
  | f :: fs, acc, δ, s => (f δ s).bind fun x s1 => match x with
    | .str z => if (acc ++ z).length ≤ lim then dJs fs (acc ++ z) δ s1 else .stuck
    | _ => .stuck
section
variable {X : Cx}
theorem d_fmt {e : Expr} {pos : Pos} {f : DE} (h : PDe T X e f) : PDe T X (.FormattedValue e (-1) none pos) (dFmt f) := fun pn xe W tk => by
  obtain ⟨t1, p1, d1⟩ := h pn xe W tk
  refine ⟨_, pe_fmt p1, fun σ H P ι F δ s Q R E post => ?_⟩
  show t1 σ H _
  refine den_then d1 R E post fun x y H1 ι1 F1 s1 g1 R1 E1 r1 post1 => ?_
  split at post1
  · split at post1
    · rename_i hl
      unfold Rp at r1
      exact .inl ⟨_, r1, by rw [S_len]; exact lim_le hl, post1.here R1 (by unfold Rp; rfl)⟩
    · exact post1.elim
  · split at post1
    · rename_i hl
      unfold Rp at r1
      exact .inr ⟨_, r1, hl, post1.here R1 (by unfold Rp strI; rw [S_un])⟩
    · exact post1.elim
  · exact post1.elim
inductive PDj (T : Tb) (X : Cx) : List Expr → List DE → Prop where
  | nil : PDj T X [] []
  | cons {e : Expr} {f : DE} {es : List Expr} {fs : List DE} (h : PDe T X e f) (r : PDj T X es fs) : PDj T X (e :: es) (f :: fs)
def DenJ (T : Tb) (W : WX) (ts : List TE) (fs : List DE) : Prop := ∀ acc σ H P ι F δ s (Q : V → Hp → Prop), RelH T P ι F s H → REnv T F ι δ σ → Post T P (Rp T) Q (fun c H' => W (.ref (T.ca c)) none σ H') F ι (dJs fs acc δ s) → tJs ts (S acc) σ H fun out H' => Q (.str out) H'
theorem pj_of {es : List Expr} {fs : List DE} (h : PDj T X es fs) : ∀ pn xe W, Takes (X.tr pn xe) W → ∃ ts, PJ (X.tr pn xe) es ts ∧ DenJ T W ts fs := by
  induction h with
  | nil => exact fun pn xe W tk => ⟨_, .nil, fun acc σ H P ι F δ s Q R E post => post.here R (by unfold Rp; rfl)⟩
  | cons h r ih =>
    intro pn xe W tk
    obtain ⟨t1, p1, d1⟩ := h pn xe W tk
    obtain ⟨ts, p2, d2⟩ := ih pn xe W tk
    refine ⟨_, .cons p1 p2, fun acc σ H P ι F δ s Q R E post => ?_⟩
    unfold dJs at post
    show t1 σ H _
    refine den_then d1 R E post fun x y H1 ι1 F1 s1 g1 R1 E1 r1 post1 => ?_
    split at post1
    · split at post1
      · rename_i z hl
        unfold Rp at r1
        refine ⟨_, r1, by rw [S_cat, S_len]; exact lim_le hl, ?_⟩
        rw [S_cat]
        exact d2 _ _ _ _ _ _ _ _ _ R1 E1 post1
      · exact post1.elim
    · exact post1.elim
theorem d_joined {v1 v2 : Expr} {rest : List Expr} {pos : Pos} {fs : List DE} (h : PDj T X (v1 :: v2 :: rest) fs) : PDe T X (.JoinedStr (v1 :: v2 :: rest) pos) (dJs fs []) := fun pn xe W tk => by
  obtain ⟨ts, p, d⟩ := pj_of h pn xe W tk
  refine ⟨_, pe_joined p, fun σ H P ι F δ s Q R E post => ?_⟩
  exact d [] _ _ _ _ _ _ _ _ R E post
theorem d_joined1 {e : Expr} {pos : Pos} {f : DE} (h : PDe T X e f) : PDe T X (.JoinedStr [e] pos) f := fun pn xe W tk => by
  obtain ⟨t1, p1, d1⟩ := h pn xe W tk
  exact ⟨_, pe_joined1 p1, d1⟩
end
end
end Mp
/-! # MpI -/
namespace Mp
open PySem PySem.Spec L2
/-! ## text.replace of written texts, behind a first item that gives out a token -/
/-- a token is out behind it -/
def PEk (X : Cx) (e : Expr) (t : TE) : Prop := ∀ (pins : List (Addr × Obj)) (s : Shared) (σ : L2.St) (H : Hp) (Q : VK), Inv X pins σ H s → t σ H Q → wpAny (model X.prog X.w) X.A (eval e X.env) (fun v s1 => 1 ≤ s1.toks ∧ EP X pins σ Q v s1) X.xe s
theorem pek_str {X : Cx} {x : Str} {j : Nat} {pos : Pos} : PEk X (.Constant (.str x) j pos) (tC (.str x)) := fun pins s σ H Q I h => Calls.Constant_str ⟨by show 1 ≤ s.toks + 1; omega, .str x, H, I.tok _, ⟨_, rfl⟩, h⟩
theorem pek_op {X : Cx} {a b : Expr} {op : Operator} {r : R2} {ta tb : TE} {pos : Pos} (ho : OpR X (binaryOp op) r) (ha : PEk X a ta) (hb : PE X b tb) : PEk X (.BinOp a op b pos) (tOp r ta tb) := by
  intro pins s σ H Q I h
  refine wpAny_BinOp (thn (ha pins s σ H _ I h) fun v s1 q => ?_)
  obtain ⟨h1, x, H1, I1, r1, q1⟩ := q
  refine wpAny_mono (PySem.wpAny_toks (hb.run pins s1 σ H1 _ I1 q1)) (fun u s2 q => ?_) fun _ _ z => z.2
  obtain ⟨hk, y, H2, I2, r2, q2⟩ := q
  refine wpAny_mono (PySem.wpAny_toks (ho pins s2 σ H2 x y v u Q I2 r1 r2 q2)) (fun w s3 q => ?_) fun _ _ z => z.2
  exact ⟨Nat.le_trans h1 (Nat.le_trans hk q.1), q.2⟩
theorem pa_tok {X : Cx} {e : Expr} {es : List Expr} {te : TE} {ta : TA} (ha : PEk X e te) (hr : PAT X es ta) (hs : starEach (e :: es) X.env = (false, eval e X.env) :: starEach es X.env := by rfl) : PA X (e :: es) (tCons te ta) := by
  refine ⟨fun pos pins s σ H Q I h => ?_⟩
  rw [hs]
  show wpAny _ _ (spliced ((false, eval e X.env) :: backTo pos (starEach es X.env))) _ _ s
  refine Calls.spliced_cons (thn (ha pins s σ H _ I h) fun v s1 q => ?_)
  obtain ⟨h0, x, H1, I1, r1, q1⟩ := q
  exact thn (hr pos pins s1 σ H1 _ h0 I1 q1) fun us s2 ⟨xs, H2, I2, r2, q2⟩ => ⟨x :: xs, H2, I2, .cons r1 r2, q2⟩
def PDk (T : Tb) (X : Cx) (e : Expr) (f : DE) : Prop := ∀ pn xe W, Takes (X.tr pn xe) W → ∃ t, PEk (X.tr pn xe) e t ∧ DenG T (Rp T) W t f
def PDeT (T : Tb) (X : Cx) (e : Expr) (f : DE) : Prop := ∀ pn xe W, Takes (X.tr pn xe) W → ∃ t, PET (X.tr pn xe) e t ∧ DenG T (Rp T) W t f
def PDaT (T : Tb) (X : Cx) (es : List Expr) (f : DA) : Prop := ∀ pn xe W, Takes (X.tr pn xe) W → ∃ t, PAT (X.tr pn xe) es t ∧ DenG T (RpsN T es.length) W t f
def dRepl (y z : Str) (f : DE) : DE := fun δ s => (f δ s).bind fun x s1 => match x with
  | .str a => if a.length + (a.length + 1) * z.length ≤ lim then .ok (.str (un (Txt.replace (S a) y z))) s1 else .stuck
  | _ => .stuck
section
variable {T : Tb} {X : Cx}
theorem k_str {x : Str} {j pos} (cs : List Nat) (h : x = S cs) : PDk T X (.Constant (.str x) j pos) (dC (.str cs)) := fun pn xe W _ => ⟨_, pek_str, den_c fun _ _ => by unfold Rp; rw [h]⟩
theorem k_op {a b : Expr} {pos : Pos} {op : Operator} {r : R2} {o : DOp} {fa fb : DE} (hr : ∀ pn xe, OpR (X.tr pn xe) (binaryOp op) r) (ho : DenOp T r o) (ha : PDk T X a fa) (hb : PDe T X b fb) : PDk T X (.BinOp a op b pos) (dOp o fa fb) := fun pn xe W tk => by
  obtain ⟨t1, p1, d1⟩ := ha pn xe W tk
  obtain ⟨t2, p2, d2⟩ := hb pn xe W tk
  exact ⟨_, pek_op (hr pn xe) p1 p2, den_op ho d1 d2⟩
theorem eT_of {e : Expr} {f : DE} (h : PDe T X e f) : PDeT T X e f := fun pn xe W tk => by
  obtain ⟨t1, p1, d1⟩ := h pn xe W tk
  exact ⟨t1, CwR.PET.of p1, d1⟩
theorem eT_repl {o : Expr} {y z : Str} {j k : Nat} {c0 c1 apos pos : Pos} {f : DE} (ho : PDe T X o f) (hyz : (y == z) = false := by decide)
    (hst : starEach [.Constant (.str y) j c0, .Constant (.str z) k c1] X.env = [(false, eval (.Constant (.str y) j c0) X.env), (false, eval (.Constant (.str z) k c1) X.env)] := by rfl)
    (hbase : attributeBase o "replace" X.env (eval o X.env) = eval o X.env := by rfl) (hline : (apos.endLine == pos.line) = true := by rfl) :
    PDeT T X (.Call (.Attribute o "replace" apos) [.Constant (.str y) j c0, .Constant (.str z) k c1] [] pos) (dRepl y z f) := fun pn xe W tk => by
  obtain ⟨t1, p1, d1⟩ := ho pn xe W tk
  refine ⟨_, CwR.pet_replC (X := X.tr pn xe) p1 hyz hst hbase hline, fun σ H P ι F δ s Q R E post => ?_⟩
  show t1 σ H _
  refine den_then d1 R E post fun x y1 H1 ι1 F1 s1 g1 R1 E1 r1 post1 => ?_
  split at post1
  · split at post1
    · rename_i hl
      unfold Rp at r1
      exact ⟨_, r1, by rw [S_len]; exact Nat.le_trans hl (by unfold lim; decide), post1.here R1 (by unfold Rp; rw [S_un])⟩
    · exact post1.elim
  · exact post1.elim
theorem aT_nil : PDaT T X [] aNil := fun pn xe W _ => ⟨_, pat_nil, fun _ _ _ _ _ _ _ _ R _ post => post.here R ⟨.nil, rfl⟩⟩
theorem den_cons {W : WX} {n : Nat} {t1 : TE} {t2 : TA} {f : DE} {g : DA} (d1 : DenG T (Rp T) W t1 f) (d2 : DenG T (RpsN T n) W t2 g) : DenG T (RpsN T (n + 1)) W (tCons t1 t2) (aCons f g) := fun σ H P ι F δ s Q R E post => by
  show t1 σ H _
  refine den_then d1 R E post fun x y H1 ι1 F1 s1 g1 R1 E1 r1 post1 => ?_
  refine den_then d2 R1 E1 post1 fun xs ys H2 ι2 F2 s2 g2 R2 E2 r2 post2 => ?_
  exact post2.here R2 ⟨.cons (r1.mono g2) r2.1, congrArg Nat.succ r2.2⟩
theorem aT_cons {e : Expr} {es : List Expr} {f : DE} {g : DA} (he : PDeT T X e f) (hr : PDaT T X es g) (hs : starEach (e :: es) X.env = (false, eval e X.env) :: starEach es X.env := by rfl) : PDaT T X (e :: es) (aCons f g) := fun pn xe W tk => by
  obtain ⟨t1, p1, d1⟩ := he pn xe W tk
  obtain ⟨t2, p2, d2⟩ := hr pn xe W tk
  exact ⟨_, pat_cons (X := X.tr pn xe) p1 p2 hs, den_cons d1 d2⟩
theorem a_tok {e : Expr} {es : List Expr} {f : DE} {g : DA} (he : PDk T X e f) (hr : PDaT T X es g) (hs : starEach (e :: es) X.env = (false, eval e X.env) :: starEach es X.env := by rfl) : PDa T X (e :: es) (aCons f g) := fun pn xe W tk => by
  obtain ⟨t1, p1, d1⟩ := he pn xe W tk
  obtain ⟨t2, p2, d2⟩ := hr pn xe W tk
  exact ⟨_, pa_tok (X := X.tr pn xe) p1 p2 hs, den_cons d1 d2⟩
end
/-! ## a list, so many times -/
def oMulA : DOp
  | .int a, .int b, s => if cMul a b = true then .ok (.int (a * b)) s else .stuck
  | x, .int k, s => match lsOf s x with
    | some xs => if xs.length * k.toNat ≤ lim ∧ -(2 ^ 62) ≤ k ∧ k < 2 ^ 62 then .ok (.lst (List.replicate k.toNat xs).flatten) s else .stuck
    | none => .stuck
  | _, _, _ => .stuck
def rMulA : R2 := orR (rI CMul fun i j => .int (i * j)) rRep
theorem op_mulA {X : Cx} : OpR X (binaryOp .Mult) rMulA := OpR.or op_mul op_rep
section
variable {T : Tb}
theorem rps_rep {F : Hp} {ι : List Addr} {xs : List D} {vs : List V} (r : Rps T F ι xs vs) : ∀ k : Nat, Rps T F ι (List.replicate k xs).flatten (List.replicate k vs).flatten
  | 0 => .nil
  | k + 1 => by
    rw [List.replicate_succ, List.replicate_succ, List.flatten_cons, List.flatten_cons]
    exact r.app (rps_rep r k)
theorem do_mulA : DenOp T rMulA oMulA := by
  intro x y dx dy H P ι F s Q E R rx ry post
  unfold oMulA at post
  split at post
  · split at post
    · rename_i hc
      unfold Rp at rx ry
      refine .inl ⟨_, _, rx, ry, ?_, post.here R (by unfold Rp; rfl)⟩
      unfold cMul at hc
      unfold CMul
      simp only [Bool.or_eq_true, Bool.and_eq_true, decide_eq_true_eq] at hc
      exact hc
    · exact post.elim
  · split at post
    · rename_i xs hx
      split at post
      · rename_i hl
        obtain ⟨p, vs, rfl, e1, e2⟩ := ls_of R rx hx
        unfold Rp at ry
        refine .inr ⟨p, _, vs, rfl, ry, e1, by omega, by omega, by rw [← e2.len]; exact lim_le hl.1, fun l hp => ?_⟩
        refine post.new R hp fun g => ?_
        unfold Rp
        exact ⟨l, _, rfl, upd_same, (rps_rep e2 _).mono g⟩
      · exact post.elim
    · exact post.elim
  · exact post.elim
end
end Mp
/-! # MpS -/
namespace Mp
open PySem PySem.Spec L2
/-! ## rows for computing with the deep program -/
section
variable {α β : Type}
@[simp] theorem bind_ok {a : α} {s : Sto} {k : α → Sto → Res β} : (Res.ok a s).bind k = k a s := rfl
@[simp] theorem bind_exc {c : Nat} {s : Sto} {k : α → Sto → Res β} : (Res.exc c s : Res α).bind k = .exc c s := rfl
@[simp] theorem bind_stuck {k : α → Sto → Res β} : (Res.stuck : Res α).bind k = .stuck := rfl
@[simp] theorem out_ok {δ : Env} {a : α} {s : Sto} {k : α → Sto → Out} : (Res.ok a s).out δ k = k a s := rfl
@[simp] theorem out_exc {δ : Env} {c : Nat} {s : Sto} {k : α → Sto → Out} : (Res.exc c s : Res α).out δ k = .ex c δ s := rfl
@[simp] theorem out_stuck {δ : Env} {k : α → Sto → Out} : (Res.stuck : Res α).out δ k = .stuck := rfl
end
section
variable {δ : Env} {s : Sto}
@[simp] theorem then_nx {k : DS} : (Out.nx δ s).andThen k = k δ s := rfl
@[simp] theorem then_rt {k : DS} {d : D} : (Out.rt d s).andThen k = .rt d s := rfl
@[simp] theorem then_bk {k : DS} : (Out.bk δ s).andThen k = .bk δ s := rfl
@[simp] theorem then_ct {k : DS} : (Out.ct δ s).andThen k = .ct δ s := rfl
@[simp] theorem then_ex {k : DS} {c : Nat} : (Out.ex c δ s).andThen k = .ex c δ s := rfl
@[simp] theorem then_stuck {k : DS} : Out.stuck.andThen k = .stuck := rfl
@[simp] theorem cut_same {d : D} : cut s.length d s = .ok d s := by unfold cut; rw [if_pos rfl]
@[simp] theorem cutX_same {c : Nat} : cutX s.length c s = .exc c s := by unfold cutX; rw [if_pos rfl]
@[simp] theorem cut_len {n : Nat} {d : D} (h : s.length = n) : cut n d s = .ok d s := by subst h; exact cut_same
theorem cutX_len {n : Nat} {c : Nat} (h : s.length = n) : cutX n c s = .exc c s := by subst h; exact cutX_same
@[simp] theorem cut_nil {d : D} : cut 0 d [] = .ok d [] := rfl
@[simp] theorem cutX_nil {c : Nat} : cutX 0 c [] = .exc c [] := rfl
@[simp] theorem fin_rt {n : Nat} {d : D} : finO n (.rt d s) = cut n d s := rfl
@[simp] theorem fin_nx {n : Nat} : finO n (.nx δ s) = cut n .non s := rfl
@[simp] theorem fin_ex {n c : Nat} : finO n (.ex c δ s) = cutX n c s := rfl
@[simp] theorem fin_stuck {n : Nat} : finO n .stuck = .stuck := rfl
@[simp] theorem dC_eq {d : D} : dC d δ s = .ok d s := rfl
@[simp] theorem dVar_eq {i : Nat} : dVar i δ s = match δ[i]? with
  | some (some d) => .ok d s
  | _ => .stuck := rfl
@[simp] theorem aNil_eq : aNil δ s = .ok [] s := rfl
@[simp] theorem aCons_eq {f : DE} {g : DA} : aCons f g δ s = (f δ s).bind fun x s1 => (g δ s1).bind fun xs s2 => .ok (x :: xs) s2 := rfl
@[simp] theorem dOp_eq {op : DOp} {f g : DE} : dOp op f g δ s = (f δ s).bind fun x s1 => (g δ s1).bind fun y s2 => op x y s2 := rfl
@[simp] theorem dCall_eq {φ : List D → Sto → Res D} {f : DA} : dCall φ f δ s = (f δ s).bind fun ds s1 => φ ds s1 := rfl
@[simp] theorem dBi_eq {φ : DB} {f : DA} : dBi φ f δ s = (f δ s).bind fun ds s1 => φ ds s1 := rfl
@[simp] theorem sSeq_eq {f g : DS} : sSeq f g δ s = (f δ s).andThen g := rfl
@[simp] theorem sSet_eq {i : Nat} {f : DE} : sSet i f δ s = (f δ s).out δ fun d s1 => .nx (δ.set i (some d)) s1 := rfl
@[simp] theorem sRet_eq {f : DE} : sRet f δ s = (f δ s).out δ fun d s1 => .rt d s1 := rfl
@[simp] theorem sRetN_eq : sRetN δ s = .rt .non s := rfl
@[simp] theorem sPass_eq : sPass δ s = .nx δ s := rfl
@[simp] theorem sBrk_eq : sBrk δ s = .bk δ s := rfl
@[simp] theorem sCt_eq : sCt δ s = .ct δ s := rfl
@[simp] theorem sDrop_eq {f : DE} : sDrop f δ s = (f δ s).out δ fun _ s1 => .nx δ s1 := rfl
@[simp] theorem sIf_eq {c : DT} {f g : DS} : sIf c f g δ s = (c δ s).out δ fun b s1 => if b = true then f δ s1 else g δ s1 := by
  unfold sIf
  cases c δ s with
  | ok b s1 => cases b <;> rfl
  | _ => rfl
@[simp] theorem tAnd_eq {f g : DT} : tAndD f g δ s = (f δ s).bind fun b s1 => if b = true then g δ s1 else .ok false s1 := by
  unfold tAndD
  cases f δ s with
  | ok b s1 => cases b <;> rfl
  | _ => rfl
@[simp] theorem tOr_eq {f g : DT} : tOrD f g δ s = (f δ s).bind fun b s1 => if b = true then .ok true s1 else g δ s1 := by
  unfold tOrD
  cases f δ s with
  | ok b s1 => cases b <;> rfl
  | _ => rfl
@[simp] theorem tNot_eq {f : DT} : tNotD f δ s = (f δ s).bind fun b s1 => .ok (!b) s1 := rfl
@[simp] theorem tst_eq {f : DE} : tst f δ s = (f δ s).bind fun x s1 => match x with
  | .bl b => .ok b s1
  | _ => .stuck := rfl
@[simp] theorem dIfE_eq {c : DT} {f g : DE} : dIfE c f g δ s = (c δ s).bind fun b s1 => if b = true then f δ s1 else g δ s1 := by
  unfold dIfE
  cases c δ s with
  | ok b s1 => cases b <;> rfl
  | _ => rfl
@[simp] theorem dAnd_eq {f g : DE} : dAndV f g δ s = (f δ s).bind fun x s1 => match x with
  | .bl true => g δ s1
  | .bl false => .ok (.bl false) s1
  | _ => .stuck := rfl
@[simp] theorem dOr_eq {f g : DE} : dOrV f g δ s = (f δ s).bind fun x s1 => match x with
  | .bl true => .ok (.bl true) s1
  | .bl false => g δ s1
  | _ => .stuck := rfl
@[simp] theorem dNot_eq {f : DE} : dNotV f δ s = (f δ s).bind fun x s1 => match x with
  | .bl b => .ok (.bl (!b)) s1
  | _ => .stuck := rfl
@[simp] theorem dChain_eq {op op' : DOp} {f g h : DE} : dChain op op' f g h δ s = (f δ s).bind fun x s1 => (g δ s1).bind fun y s2 => (op x y s2).bind fun z s3 => match z with
  | .bl true => (h δ s3).bind fun w s4 => op' y w s4
  | .bl false => .ok (.bl false) s3
  | _ => .stuck := rfl
@[simp] theorem dTup_eq {f : DA} : dTup f δ s = (f δ s).bind fun xs s1 => if xs.length ≤ lim then .ok (.tup xs) s1 else .stuck := rfl
@[simp] theorem dLst_eq {f : DA} : dLst f δ s = (f δ s).bind fun xs s1 => if xs.length ≤ lim then .ok (.lst xs) s1 else .stuck := rfl
@[simp] theorem dUn_eq {g : Int → Int} {f : DE} : dUn g f δ s = (f δ s).bind fun x s1 => match x with
  | .int i => .ok (.int (g i)) s1
  | _ => .stuck := rfl
@[simp] theorem dSl_eq {f : DE} {lo hi : DOI} : dSl f lo hi δ s = (f δ s).bind fun x s1 => (lo δ s1).bind fun l s2 => (hi δ s2).bind fun u s3 => oSl x l u s3 := rfl
theorem oSl_str {z : List Nat} {lo hi : Option Int} (h : z.length ≤ lim) : oSl (.str z) lo hi s = .ok (.str (cutL z lo hi)) s := if_pos h
@[simp] theorem pNone_eq : pNone δ s = .ok none s := rfl
@[simp] theorem pSome_eq {f : DE} : pSome f δ s = (f δ s).bind fun x s1 => match x with
  | .int i => .ok (some i) s1
  | _ => .stuck := rfl
@[simp] theorem tgN_eq {i : Nat} {d : D} : tgN i d δ = some (δ.set i (some d)) := rfl
@[simp] theorem tgT_eq {ts : List DTg} {xs : List D} : tgT ts (.tup xs) δ = tgs ts xs δ := rfl
@[simp] theorem tgs_nil : tgs [] [] δ = some δ := rfl
@[simp] theorem tgs_cons {t : DTg} {ts : List DTg} {d : D} {ds : List D} : tgs (t :: ts) (d :: ds) δ = (t d δ).bind fun δ1 => tgs ts ds δ1 := rfl
@[simp] theorem sAsg_eq {f : DE} {t : DTg} : sAsg f t δ s = (f δ s).out δ fun d s1 => match t d δ with
  | some δ1 => .nx δ1 s1
  | none => .stuck := rfl
/-! ### loops -/
@[simp] theorem sFor_eq {it : DIt} {t : DTg} {b : DS} : sFor it t b δ s = (it δ s).out δ fun ds s1 => forL t b ds δ s1 := rfl
@[simp] theorem forL_nil {t : DTg} {b : DS} : forL t b [] δ s = .nx δ s := rfl
theorem forL_cons {t : DTg} {b : DS} {d : D} {r : List D} : forL t b (d :: r) δ s = match t d δ with
  | none => .stuck
  | some δ1 => match b δ1 s with
    | .nx δ2 s2 => forL t b r δ2 s2
    | .ct δ2 s2 => forL t b r δ2 s2
    | .bk δ2 s2 => .nx δ2 s2
    | o => o := rfl
theorem forL_next {t : DTg} {b : DS} {d : D} {r : List D} {δ1 δ2 : Env} {s2 : Sto} (h : t d δ = some δ1) (k : b δ1 s = .nx δ2 s2) : forL t b (d :: r) δ s = forL t b r δ2 s2 := by
  rw [forL_cons, h]
  dsimp only
  rw [k]
theorem forL_stop {t : DTg} {b : DS} {d e : D} {r : List D} {δ1 : Env} {s2 : Sto} (h : t d δ = some δ1) (k : b δ1 s = .rt e s2) : forL t b (d :: r) δ s = .rt e s2 := by
  rw [forL_cons, h]
  dsimp only
  rw [k]
end
theorem forL_ok (I : Nat → Env → Sto → Prop) {t : DTg} {b : DS} : ∀ (ds : List D) (n : Nat), (∀ i d δ s, ds[i]? = some d → I (n + i) δ s → ∃ δ1 δ2 s2, t d δ = some δ1 ∧ (b δ1 s = .nx δ2 s2 ∨ b δ1 s = .ct δ2 s2) ∧ I (n + i + 1) δ2 s2) →
    ∀ (δ : Env) (s : Sto), I n δ s → ∃ δ' s', forL t b ds δ s = .nx δ' s' ∧ I (n + ds.length) δ' s'
  | [], n, _, δ, s, h => ⟨δ, s, rfl, h⟩
  | d :: r, n, turn, δ, s, h => by
    obtain ⟨δ1, δ2, s2, h1, h2, h3⟩ := turn 0 d δ s rfl h
    obtain ⟨δ', s', e, i⟩ := forL_ok I r (n + 1) (fun i d δ s hd hi => by
      have := turn (i + 1) d δ s (by simpa using hd) (by rw [show n + (i + 1) = n + 1 + i by omega]; exact hi)
      rw [show n + (i + 1) = n + 1 + i by omega] at this
      exact this) δ2 s2 h3
    refine ⟨δ', s', ?_, by rw [List.length_cons, show n + (r.length + 1) = n + 1 + r.length by omega]; exact i⟩
    rw [forL_cons, h1]
    dsimp only
    rcases h2 with h2 | h2 <;> rw [h2] <;> exact e
section
variable {δ : Env} {s : Sto}
@[simp] theorem sWh_eq {n : Nat} {c : DT} {b : DS} : sWh n c b δ s = whL c b n δ s := rfl
@[simp] theorem itSeq_eq {f : DE} : itSeq f δ s = (f δ s).bind fun x s1 => match x with
  | .lst xs => .ok xs s1
  | .scr ns => .ok (ns.map D.int) s1
  | .tup xs => .ok xs s1
  | _ => .stuck := by
  unfold itSeq
  cases f δ s with
  | ok x s1 => cases x <;> rfl
  | _ => rfl
@[simp] theorem itR1_eq {f : DA} : itR1 f δ s = (f δ s).bind fun xs s1 => match xs with
  | [.int n] => if small62 n = true then .ok (intsD 0 n.toNat) s1 else .stuck
  | _ => .stuck := rfl
@[simp] theorem itR2_eq {f : DA} : itR2 f δ s = (f δ s).bind fun xs s1 => match xs with
  | [.int a, .int b] => if (small62 a && small62 b) = true then .ok (intsD a (b - a).toNat) s1 else .stuck
  | _ => .stuck := rfl
@[simp] theorem itZip_eq {f : DA} : itZip f δ s = (f δ s).bind fun xs s1 => match xs with
  | [.lst a, .lst b] => .ok (zipD a b) s1
  | [.tup a, .tup b] => .ok (zipD a b) s1
  | _ => .stuck := rfl
@[simp] theorem dLc_eq {it : DIt} {t : DTg} {c : DT} {e : DE} {vs : List Nat} : dLc it t c e vs δ s = (it δ s).bind fun ds s1 => lcL t c e (wipeE δ vs) ds [] s1 := rfl
@[simp] theorem lcL_nil {t : DTg} {c : DT} {e : DE} {acc : List D} : lcL t c e δ [] acc s = .ok (.lst acc) s := rfl
theorem lcL_cons {t : DTg} {c : DT} {e : DE} {acc : List D} {d : D} {r : List D} : lcL t c e δ (d :: r) acc s = match t d δ with
  | none => .stuck
  | some δ1 => match c δ1 s with
    | .ok true s2 => match e δ1 s2 with
      | .ok y s3 => if acc.length < lim then lcL t c e δ r (acc ++ [y]) s3 else .stuck
      | _ => .stuck
    | .ok false s2 => lcL t c e δ r acc s2
    | _ => .stuck := rfl
@[simp] theorem cYes_eq : cYes δ s = .ok true s := rfl
@[simp] theorem wipeE_nil : wipeE δ [] = δ := rfl
@[simp] theorem wipeE_cons {v : Nat} {vs : List Nat} : wipeE δ (v :: vs) = (wipeE δ vs).set v none := rfl
/-! ### operators -/
@[simp] theorem oAdd_int {a b : Int} : oAdd (.int a) (.int b) s = .ok (.int (a + b)) s := rfl
@[simp] theorem oAdd_str {a b : List Nat} : oAdd (.str a) (.str b) s = if a.length + b.length ≤ lim then .ok (.str (a ++ b)) s else .stuck := rfl
@[simp] theorem oAdd_tup {a b : List D} : oAdd (.tup a) (.tup b) s = if a ≠ [] ∧ a.length + b.length ≤ lim then .ok (.tup (a ++ b)) s else .stuck := rfl
@[simp] theorem oAdd_lst {a b : List D} : oAdd (.lst a) (.lst b) s = if a.length + b.length ≤ lim then .ok (.lst (a ++ b)) s else .stuck := rfl
@[simp] theorem oInt_int {c : Int → Int → Bool} {g : Int → Int → Int} {a b : Int} : oInt c g (.int a) (.int b) s = if c a b = true then .ok (.int (g a b)) s else .stuck := rfl
@[simp] theorem oCmp_int {g : Int → Int → Bool} {a b : Int} : oCmp g (.int a) (.int b) s = .ok (.bl (g a b)) s := rfl
theorem oEq_sc {n b : Bool} {x y : D} (h : scD x y = some b) : oEqG n x y s = .ok (.bl (n != b)) s := by unfold oEqG; rw [h]
section
variable {n : Bool} {a b : Int} {x y : List Nat} {p q : Bool}
@[simp] theorem oEq_int : oEqG n (.int a) (.int b) s = .ok (.bl (n != (a == b))) s := rfl
@[simp] theorem oEq_str : oEqG n (.str x) (.str y) s = .ok (.bl (n != (x == y))) s := rfl
@[simp] theorem oEq_bl : oEqG n (.bl p) (.bl q) s = .ok (.bl (n != (p == q))) s := rfl
@[simp] theorem oEq_nn : oEqG n .non .non s = .ok (.bl (n != true)) s := rfl
@[simp] theorem oEq_ni : oEqG n .non (.int a) s = .ok (.bl (n != false)) s := rfl
@[simp] theorem oEq_ns : oEqG n .non (.str x) s = .ok (.bl (n != false)) s := rfl
@[simp] theorem oEq_nb : oEqG n .non (.bl p) s = .ok (.bl (n != false)) s := rfl
@[simp] theorem oEq_in : oEqG n (.int a) .non s = .ok (.bl (n != false)) s := rfl
@[simp] theorem oEq_sn : oEqG n (.str x) .non s = .ok (.bl (n != false)) s := rfl
@[simp] theorem oEq_bn : oEqG n (.bl p) .non s = .ok (.bl (n != false)) s := rfl
@[simp] theorem oEq_is : oEqG n (.int a) (.str x) s = .ok (.bl (n != false)) s := rfl
@[simp] theorem oEq_si : oEqG n (.str x) (.int a) s = .ok (.bl (n != false)) s := rfl
@[simp] theorem oEq_bs : oEqG n (.bl p) (.str x) s = .ok (.bl (n != false)) s := rfl
@[simp] theorem oEq_sb : oEqG n (.str x) (.bl p) s = .ok (.bl (n != false)) s := rfl
end
@[simp] theorem oIs_eq {n : Bool} {x : D} : oIs n x .non s = .ok (.bl (n != isNon x)) s := rfl
@[simp] theorem isNon_non : isNon .non = true := rfl
@[simp] theorem isNon_int {a : Int} : isNon (.int a) = false := rfl
@[simp] theorem isNon_str {a : List Nat} : isNon (.str a) = false := rfl
@[simp] theorem isNon_bl {a : Bool} : isNon (.bl a) = false := rfl
@[simp] theorem isNon_tup {a : List D} : isNon (.tup a) = false := rfl
@[simp] theorem isNon_lst {a : List D} : isNon (.lst a) = false := rfl
@[simp] theorem isNon_loc {a : Nat} : isNon (.loc a) = false := rfl
@[simp] theorem isNon_exc {a : Nat} : isNon (.exc a) = false := rfl
@[simp] theorem isNon_obj {a : Nat} {ns : List Nat} {vs : List D} : isNon (.obj a ns vs) = false := rfl
@[simp] theorem lqOf_lst {xs : List D} : lqOf s (.lst xs) = some xs := rfl
@[simp] theorem lqOf_scr {ns : List Int} : lqOf s (.scr ns) = some (ns.map D.int) := rfl
@[simp] theorem lqOf_tup {xs : List D} : lqOf s (.tup xs) = none := rfl
@[simp] theorem lsOf_lst {xs : List D} : lsOf s (.lst xs) = some xs := rfl
@[simp] theorem tpOf_tup {xs : List D} : tpOf (.tup xs) = some xs := rfl
@[simp] theorem oIx_lst {xs : List D} {i : Int} : oIx (.lst xs) (.int i) s = match atI xs i with
  | some d => .ok d s
  | none => .stuck := rfl
@[simp] theorem oIx_tup {xs : List D} {i : Int} : oIx (.tup xs) (.int i) s = match atI xs i with
  | some d => .ok d s
  | none => .stuck := rfl
@[simp] theorem oIx_scr {xs : List Int} {i : Int} : oIx (.scr xs) (.int i) s = match atI (xs.map D.int) i with
  | some d => .ok d s
  | none => .stuck := rfl
@[simp] theorem oIx_str {z : List Nat} {i : Int} : oIx (.str z) (.int i) s = if z.length ≤ lim then match atI z i with
    | some c => .ok (.str [c]) s
    | none => .stuck
    else .stuck := rfl
@[simp] theorem bLen_lst {xs : List D} : bLen [.lst xs] s = .ok (.int xs.length) s := rfl
@[simp] theorem bLen_tup {xs : List D} : bLen [.tup xs] s = .ok (.int xs.length) s := rfl
@[simp] theorem bLen_scr {xs : List Int} : bLen [.scr xs] s = .ok (.int xs.length) s := by unfold bLen; simp
@[simp] theorem bLen_str {z : List Nat} : bLen [.str z] s = if z.length ≤ lim then .ok (.int z.length) s else .stuck := rfl
@[simp] theorem b2I_eq {g : Int → Int → Int} {a b : Int} : b2I g [.int a, .int b] s = .ok (.int (g a b)) s := rfl
theorem lim_eq : lim = 1000000 := rfl
theorem cMul_l {i j : Int} (h : -18446744073709551616 < i ∧ i < 18446744073709551616) : cMul i j = true := by
  unfold cMul
  simp only [Bool.or_eq_true, Bool.and_eq_true, decide_eq_true_eq]
  left
  have e : (2 : Int) ^ 64 = 18446744073709551616 := by decide
  rw [e]
  exact h
theorem cMul_r {i j : Int} (h : -18446744073709551616 < j ∧ j < 18446744073709551616) : cMul i j = true := by
  unfold cMul
  simp only [Bool.or_eq_true, Bool.and_eq_true, decide_eq_true_eq]
  right
  have e : (2 : Int) ^ 64 = 18446744073709551616 := by decide
  rw [e]
  exact h
@[simp] theorem atI_natc {α : Type} {xs : List α} {i : Nat} : atI xs (i : Int) = xs[i]? := by
  unfold atI ixN
  by_cases h : i < xs.length
  · simp [h]
  · simp [h]
@[simp] theorem atI_lit {α : Type} {xs : List α} {i : Nat} : atI xs (no_index (OfNat.ofNat i)) = xs[i]? := atI_natc (i := i)
theorem atI_nat {α : Type} {xs : List α} {i : Nat} (h : i < xs.length) : atI xs (i : Int) = xs[i]? := by
  unfold atI ixN
  simp [h]
theorem atI_int {α : Type} {xs : List α} {i : Int} (h0 : 0 ≤ i) (h1 : i < xs.length) : atI xs i = xs[i.toNat]? := by
  obtain ⟨n, rfl⟩ := Int.eq_ofNat_of_zero_le h0
  exact atI_nat (by omega)
theorem atI_mem {α : Type} {xs : List α} {i : Int} (h0 : 0 ≤ i) (h1 : i < xs.length) : ∃ d, atI xs i = some d ∧ d ∈ xs := by
  rw [atI_int h0 h1]
  have h : i.toNat < xs.length := by omega
  exact ⟨xs[i.toNat], by simp [h], List.getElem_mem h⟩
theorem atI_ex {α : Type} {xs : List α} {i : Int} {Q : α → Prop} (h0 : 0 ≤ i) (h1 : i < xs.length) (h : ∀ d ∈ xs, Q d) : ∃ d, atI xs i = some d ∧ Q d :=
  let ⟨d, e, m⟩ := atI_mem h0 h1
  ⟨d, e, h d m⟩
theorem atI_cons0 {α : Type} {x : α} {xs : List α} : atI (x :: xs) (0 : Int) = some x := by
  rw [atI_int (by omega) (by simp)]
  rfl
end
/-! ### exceptions, cells, methods, texts -/
section
variable {δ : Env} {s : Sto}
@[simp] theorem sRaise_eq {c : Nat} : sRaise c δ s = .ex c δ s := rfl
theorem sTry_eq {anc : Nat → Nat → Option Bool} {c : Nat} {i : Option Nat} {f g : DS} : sTry anc c i f g δ s = match f δ s with
  | .ex k δ1 s1 => match anc k c with
    | some true => (g (setE i (some (.exc k)) δ1) s1).unset i
    | some false => .ex k δ1 s1
    | none => .stuck
  | o => o := rfl
theorem sTry_rt {anc : Nat → Nat → Option Bool} {c : Nat} {i : Option Nat} {f g : DS} {d : D} {s1 : Sto} (h : f δ s = .rt d s1) : sTry anc c i f g δ s = .rt d s1 := by rw [sTry_eq, h]
theorem sTry_nx {anc : Nat → Nat → Option Bool} {c : Nat} {i : Option Nat} {f g : DS} {δ1 : Env} {s1 : Sto} (h : f δ s = .nx δ1 s1) : sTry anc c i f g δ s = .nx δ1 s1 := by rw [sTry_eq, h]
theorem sTry_ex {anc : Nat → Nat → Option Bool} {c k : Nat} {i : Option Nat} {f g : DS} {δ1 : Env} {s1 : Sto} (h : f δ s = .ex k δ1 s1) (hk : anc k c = some true) : sTry anc c i f g δ s = (g (setE i (some (.exc k)) δ1) s1).unset i := by rw [sTry_eq, h]; dsimp only; rw [hk]
@[simp] theorem setE_some {i : Nat} {o : Option D} : setE (some i) o δ = δ.set i o := rfl
@[simp] theorem setE_none {o : Option D} : setE none o δ = δ := rfl
@[simp] theorem unset_nx {i : Option Nat} : (Out.nx δ s).unset i = .nx (setE i none δ) s := rfl
@[simp] theorem unset_rt {i : Option Nat} {d : D} : (Out.rt d s).unset i = .rt d s := rfl
@[simp] theorem unset_ct {i : Option Nat} : (Out.ct δ s).unset i = .ct (setE i none δ) s := rfl
@[simp] theorem dLstC_eq {f : DA} : dLstC f δ s = (f δ s).bind fun xs s1 => if xs.length ≤ lim then .ok (.loc s1.length) (s1 ++ [.lst xs]) else .stuck := rfl
@[simp] theorem sIxS_eq {f fo fi : DE} : sIxS f fo fi δ s = (f δ s).out δ fun d s1 => (fo δ s1).out δ fun o s2 => (fi δ s2).out δ fun i s3 => match setAt o i d s3 with
  | some s4 => .nx δ s4
  | none => .stuck := rfl
@[simp] theorem setAt_loc {n : Nat} {k : Int} {d : D} : setAt (.loc n) (.int k) d s = match s[n]? with
    | some (.lst xs) => match ixN xs.length k with
      | some j => some (s.set n (.lst (xs.set j d)))
      | none => none
    | _ => none := rfl
@[simp] theorem lqOf_loc {n : Nat} : lqOf s (.loc n) = match s[n]? with
    | some (.lst xs) => some xs
    | _ => none := rfl
@[simp] theorem lsOf_loc {n : Nat} : lsOf s (.loc n) = match s[n]? with
    | some (.lst xs) => some xs
    | _ => none := rfl
@[simp] theorem oIx_loc {n : Nat} {i : Int} : oIx (.loc n) (.int i) s = match (lqOf s (.loc n)).or none with
  | some xs => match atI xs i with
    | some d => .ok d s
    | none => .stuck
  | none => .stuck := rfl
@[simp] theorem dMt_eq {ty : String} {op : DM} {f : DE} {fa : DA} : dMt ty op f fa δ s = (f δ s).bind fun x s1 => if recvTy s1 x = some ty then (fa δ s1).bind fun xs s2 => op x xs s2 else .stuck := rfl
@[simp] theorem recvTy_str {z : List Nat} : recvTy s (.str z) = some "str" := rfl
@[simp] theorem recvTy_lst {z : List D} : recvTy s (.lst z) = some "list" := rfl
@[simp] theorem recvTy_scr {z : List Int} : recvTy s (.scr z) = some "list" := rfl
@[simp] theorem recvTy_loc {n : Nat} : recvTy s (.loc n) = match s[n]? with
    | some (.lst _) => some "list"
    | some (.dct _ _) => some "dict"
    | _ => none := rfl
@[simp] theorem mAppend_eq {n : Nat} {d : D} : mAppend (.loc n) [d] s = match s[n]? with
    | some (.lst xs) => if xs.length < lim then .ok .non (s.set n (.lst (xs ++ [d]))) else .stuck
    | _ => .stuck := rfl
@[simp] theorem itAny_eq {f : DE} : itAny f δ s = (f δ s).bind fun x s1 => match x with
  | .lst xs => .ok xs s1
  | .scr ns => .ok (ns.map D.int) s1
  | .tup xs => .ok xs s1
  | .str z => .ok (z.map fun c => D.str [c]) s1
  | _ => .stuck := by
  unfold itAny
  cases f δ s with
  | ok x s1 => cases x <;> rfl
  | _ => rfl
@[simp] theorem oInA_sign {neg : Bool} {c : Nat} {z : List Nat} : oInA neg (.str [c]) (.str z) s = .ok (.bl (neg != decide (c ∈ z))) s := rfl
theorem oInA_lst {neg : Bool} {x : D} {ys : List D} : oInA neg x (.lst ys) s = if (flatD x && ys.all flatD) = true then .ok (.bl (neg != ys.any fun y => eqF y x)) s else .stuck := by
  unfold oInA
  split
  · rename_i h; cases h
  · rfl
@[simp] theorem oInA_tup {neg : Bool} {x : D} {ys : List D} : oInA neg x (.tup ys) s = if (flatD x && ys.all flatD) = true then .ok (.bl (neg != ys.any fun y => eqF y x)) s else .stuck := by
  unfold oInA
  split
  · rename_i h; cases h
  · rfl
@[simp] theorem dFmt_eq {f : DE} : dFmt f δ s = (f δ s).bind fun x s1 => match x with
  | .str z => if z.length ≤ lim then .ok (.str z) s1 else .stuck
  | .int i => if i.natAbs.log2 < 1920 then .ok (.str (strI i)) s1 else .stuck
  | _ => .stuck := rfl
@[simp] theorem dJs_nil {acc : List Nat} : dJs [] acc δ s = .ok (.str acc) s := rfl
@[simp] theorem dJs_cons {f : DE} {fs : List DE} {acc : List Nat} : dJs (f :: fs) acc δ s = (f δ s).bind fun x s1 => match x with
    | .str z => if (acc ++ z).length ≤ lim then dJs fs (acc ++ z) δ s1 else .stuck
    | _ => .stuck := rfl
@[simp] theorem oMulA_int {a b : Int} : oMulA (.int a) (.int b) s = if cMul a b = true then .ok (.int (a * b)) s else .stuck := rfl
@[simp] theorem oMulA_lst {xs : List D} {k : Int} : oMulA (.lst xs) (.int k) s = if xs.length * k.toNat ≤ lim ∧ -(2 ^ 62) ≤ k ∧ k < 2 ^ 62 then .ok (.lst (List.replicate k.toNat xs).flatten) s else .stuck := rfl
@[simp] theorem dRepl_eq {y z : Str} {f : DE} : dRepl y z f δ s = (f δ s).bind fun x s1 => match x with
  | .str a => if a.length + (a.length + 1) * z.length ≤ lim then .ok (.str (un (Txt.replace (S a) y z))) s1 else .stuck
  | _ => .stuck := rfl
@[simp] theorem bInt_int {i : Int} : bInt [.int i] s = .ok (.int i) s := rfl
@[simp] theorem bInt_bl {b : Bool} : bInt [.bl b] s = .ok (.int (if b then 1 else 0)) s := rfl
@[simp] theorem bInt_str {z : List Nat} : bInt [.str z] s = match PySem.intText? (S z) with
    | some n => if z.length ≤ 640 then .ok (.int n) s else .stuck
    | none => .stuck := rfl
@[simp] theorem bStr_int {i : Int} : bStr [.int i] s = if i.natAbs.log2 < 1920 then .ok (.str (strI i)) s else .stuck := rfl
@[simp] theorem bDivmod_int {i j : Int} : bDivmod [.int i, .int j] s = if (decide (0 < j) && decide (j < 1073741824)) = true then .ok (.tup [.int (i / j), .int (i % j)]) s else .stuck := rfl
/-- a comprehension without a test, its values by a function; with a test -/
theorem lcL_map {t : DTg} {e : DE} (f : D → D) : ∀ (ds acc : List D), acc.length + ds.length ≤ lim → (∀ d ∈ ds, ∃ δ1, t d δ = some δ1 ∧ e δ1 s = .ok (f d) s) → lcL t cYes e δ ds acc s = .ok (.lst (acc ++ ds.map f)) s
  | [], acc, _, _ => by simp
  | d :: ds, acc, hl, h => by
    obtain ⟨δ1, h1, h2⟩ := h d List.mem_cons_self
    rw [List.length_cons] at hl
    rw [lcL_cons, h1]
    dsimp only
    rw [cYes_eq]
    dsimp only
    rw [h2]
    dsimp only
    rw [if_pos (by omega), lcL_map f ds (acc ++ [f d]) (by rw [List.length_append, List.length_singleton]; omega) fun d' hd => h d' (List.mem_cons_of_mem _ hd), List.append_assoc, List.map_cons]
    rfl
theorem lcL_fil {t : DTg} {c : DT} {e : DE} (f : D → D) (p : D → Bool) : ∀ (ds acc : List D), acc.length + ds.length ≤ lim → (∀ d ∈ ds, ∃ δ1, t d δ = some δ1 ∧ c δ1 s = .ok (p d) s ∧ (p d = true → e δ1 s = .ok (f d) s)) → lcL t c e δ ds acc s = .ok (.lst (acc ++ (ds.filter p).map f)) s
  | [], acc, _, _ => by simp
  | d :: ds, acc, hl, h => by
    obtain ⟨δ1, h1, h2, h3⟩ := h d List.mem_cons_self
    rw [List.length_cons] at hl
    rw [lcL_cons, h1]
    dsimp only
    rw [h2]
    cases hp : p d with
    | false =>
      dsimp only
      rw [lcL_fil f p ds acc (by omega) fun d' hd => h d' (List.mem_cons_of_mem _ hd), List.filter_cons_of_neg (by rw [hp]; exact Bool.false_ne_true)]
    | true =>
      dsimp only
      rw [h3 hp]
      dsimp only
      rw [if_pos (by omega), lcL_fil f p ds (acc ++ [f d]) (by rw [List.length_append, List.length_singleton]; omega) fun d' hd => h d' (List.mem_cons_of_mem _ hd), List.append_assoc, List.filter_cons_of_pos hp, List.map_cons]
      rfl
theorem bools_map {α : Type} (g : α → Bool) : ∀ l : List α, boolsOf (l.map fun x => D.bl (g x)) = some (l.map g)
  | [] => rfl
  | x :: l => by
    show (boolsOf (l.map fun x => D.bl (g x))).map (g x :: ·) = _
    rw [bools_map g l]; rfl
end
end Mp
/-! # MpT -/
namespace Mp
open PySem PySem.Spec L2
/-! ## equality of nested lists and tuples, by the deep values -/
def okS (z : List Nat) : Bool := z.all fun c => decide (c < 1114112)
mutual
def datD : Nat → D → Bool
  | _, .non => true
  | _, .bl _ => true
  | _, .int _ => true
  | _, .str z => okS z
  | n + 1, .lst xs => datDs n xs
  | n + 1, .tup xs => datDs n xs
  | _, _ => false
def datDs : Nat → List D → Bool
  | _, [] => true
  | n, x :: xs => datD n x && datDs n xs
end
mutual
def eqD : D → D → Bool
  | .lst xs, .lst ys => eqDs xs ys
  | .tup xs, .tup ys => eqDs xs ys
  | .non, .non => true
  | .bl a, .bl b => a == b
  | .bl a, .int b => (if a then 1 else 0) == b
  | .int a, .bl b => a == (if b then 1 else 0)
  | .int a, .int b => a == b
  | .str a, .str b => a == b
  | _, _ => false
def eqDs : List D → List D → Bool
  | [], [] => true
  | x :: xs, y :: ys => eqD x y && eqDs xs ys
  | _, _ => false
end
mutual
theorem dat_ok : ∀ {n : Nat} {x : D}, datD n x = true → ∃ p, toP x = some p ∧ p.canLay0 = true ∧ p.depth ≤ n
  | _, .non, _ => ⟨_, rfl, rfl, Nat.zero_le _⟩
  | _, .bl _, _ => ⟨_, rfl, rfl, Nat.zero_le _⟩
  | _, .int _, _ => ⟨_, rfl, rfl, Nat.zero_le _⟩
  | n, .str z, h => ⟨.str (S z), rfl, by
      have h' : okS z = true := by cases n <;> exact h
      show PyData.strOk (S z) = true
      unfold PyData.strOk S
      unfold okS at h'
      rw [List.all_eq_true] at h'
      simp only [List.all_toArray, List.all_eq_true, decide_eq_true_eq]
      intro c hc
      simpa using h' c hc, Nat.zero_le _⟩
  | n + 1, .lst xs, h => by
    obtain ⟨ps, h1, h2, h3⟩ := dats_ok (n := n) (xs := xs) h
    exact ⟨.list ps, by unfold toP; rw [h1]; rfl, by unfold PyData.canLay0; exact h2, by unfold PyData.depth; omega⟩
  | n + 1, .tup xs, h => by
    obtain ⟨ps, h1, h2, h3⟩ := dats_ok (n := n) (xs := xs) h
    exact ⟨.tuple ps, by unfold toP; rw [h1]; rfl, by unfold PyData.canLay0; exact h2, by unfold PyData.depth; omega⟩
  | 0, .lst _, h => by cases h
  | 0, .tup _, h => by cases h
  | 0, .scr _, h => by cases h
  | _ + 1, .scr _, h => by cases h
  | 0, .dct _ _, h => by cases h
  | _ + 1, .dct _ _, h => by cases h
  | 0, .dcL _ _, h => by cases h
  | _ + 1, .dcL _ _, h => by cases h
  | 0, .dcT _ _, h => by cases h
  | _ + 1, .dcT _ _, h => by cases h
  | 0, .fn _ _ _ _ _, h => by cases h
  | _ + 1, .fn _ _ _ _ _, h => by cases h
  | 0, .obj _ _ _, h => by cases h
  | _ + 1, .obj _ _ _, h => by cases h
  | 0, .loc _, h => by cases h
  | _ + 1, .loc _, h => by cases h
  | 0, .exc _, h => by cases h
  | _ + 1, .exc _, h => by cases h
  | 0, .cls _, h => by cases h
  | _ + 1, .cls _, h => by cases h
  | 0, .ty _, h => by cases h
  | _ + 1, .ty _, h => by cases h
theorem dats_ok : ∀ {n : Nat} {xs : List D}, datDs n xs = true → ∃ ps, toPs xs = some ps ∧ PyData.canLayAll0 ps = true ∧ PyData.depthAll ps ≤ n
  | _, [], _ => ⟨[], rfl, rfl, Nat.zero_le _⟩
  | n, x :: xs, h => by
    have h' : (datD n x && datDs n xs) = true := h
    rw [Bool.and_eq_true] at h'
    obtain ⟨p, h1, h2, h3⟩ := dat_ok h'.1
    obtain ⟨ps, h4, h5, h6⟩ := dats_ok h'.2
    exact ⟨p :: ps, by unfold toPs; rw [h1, h4], by unfold PyData.canLayAll0; rw [h2, h5]; rfl, by unfold PyData.depthAll; omega⟩
end
theorem S_beq (a b : List Nat) : (S a == S b) = (a == b) := by
  rw [beq_dec, beq_dec]
  exact decide_eq_decide.mpr ⟨fun h => S_inj h, fun h => by rw [h]⟩
theorem flat_l {x y : D} {p q : PyData} (fx : flatD x = true) (hy : ∃ m, datD m y = true) (ep : toP x = some p) (eq : toP y = some q) : PyData.eqv p q = eqD x y := by
  obtain ⟨m, hy⟩ := hy
  cases x <;> first | cases fx | skip
  all_goals
    cases ep
    cases y with
    | lst ys =>
      have e : (toPs ys).map PyData.list = some q := eq
      cases h : toPs ys with
      | none => rw [h] at e; cases e
      | some qs => rw [h] at e; cases e; rfl
    | tup ys =>
      have e : (toPs ys).map PyData.tuple = some q := eq
      cases h : toPs ys with
      | none => rw [h] at e; cases e
      | some qs => rw [h] at e; cases e; rfl
    | non => cases eq; rfl
    | bl _ => cases eq; rfl
    | int _ => cases eq; rfl
    | str _ => first | (cases eq; rfl) | (cases eq; exact S_beq _ _)
    | _ => cases m <;> cases hy
mutual
theorem eqv_ok : ∀ {n m : Nat} {x y : D} {p q : PyData}, datD n x = true → datD m y = true → toP x = some p → toP y = some q → PyData.eqv p q = eqD x y
  | n + 1, m, .lst xs, y, p, q, hx, hy, ep, eq => by
    obtain ⟨ps, h1, _, _⟩ := dats_ok (n := n) (xs := xs) hx
    have e : toP (.lst xs) = some (.list ps) := by unfold toP; rw [h1]; rfl
    rw [e] at ep; cases ep
    cases y with
    | lst ys =>
      cases m with
      | zero => cases hy
      | succ m =>
        obtain ⟨qs, h2, _, _⟩ := dats_ok (n := m) (xs := ys) hy
        have e2 : toP (.lst ys) = some (.list qs) := by unfold toP; rw [h2]; rfl
        rw [e2] at eq; cases eq
        unfold PyData.eqv eqD
        exact eqvs_ok (n := n) (m := m) hx hy h1 h2
    | tup ys =>
      cases m with
      | zero => cases hy
      | succ m =>
        obtain ⟨qs, h2, _, _⟩ := dats_ok (n := m) (xs := ys) hy
        have e2 : toP (.tup ys) = some (.tuple qs) := by unfold toP; rw [h2]; rfl
        rw [e2] at eq; cases eq
        rfl
    | non => cases eq; rfl
    | bl _ => cases eq; rfl
    | int _ => cases eq; rfl
    | str _ => cases eq; rfl
    | _ => cases m <;> cases hy
  | n + 1, m, .tup xs, y, p, q, hx, hy, ep, eq => by
    obtain ⟨ps, h1, _, _⟩ := dats_ok (n := n) (xs := xs) hx
    have e : toP (.tup xs) = some (.tuple ps) := by unfold toP; rw [h1]; rfl
    rw [e] at ep; cases ep
    cases y with
    | tup ys =>
      cases m with
      | zero => cases hy
      | succ m =>
        obtain ⟨qs, h2, _, _⟩ := dats_ok (n := m) (xs := ys) hy
        have e2 : toP (.tup ys) = some (.tuple qs) := by unfold toP; rw [h2]; rfl
        rw [e2] at eq; cases eq
        unfold PyData.eqv eqD
        exact eqvs_ok (n := n) (m := m) hx hy h1 h2
    | lst ys =>
      cases m with
      | zero => cases hy
      | succ m =>
        obtain ⟨qs, h2, _, _⟩ := dats_ok (n := m) (xs := ys) hy
        have e2 : toP (.lst ys) = some (.list qs) := by unfold toP; rw [h2]; rfl
        rw [e2] at eq; cases eq
        rfl
    | non => cases eq; rfl
    | bl _ => cases eq; rfl
    | int _ => cases eq; rfl
    | str _ => cases eq; rfl
    | _ => cases m <;> cases hy
  | 0, _, .lst _, _, _, _, hx, _, _, _ => by cases hx
  | 0, _, .tup _, _, _, _, hx, _, _, _ => by cases hx
  | n, m, .non, y, p, q, hx, hy, ep, eq => by cases ep; exact flat_l rfl ⟨m, hy⟩ rfl eq
  | n, m, .bl _, y, p, q, hx, hy, ep, eq => by cases ep; exact flat_l rfl ⟨m, hy⟩ rfl eq
  | n, m, .int _, y, p, q, hx, hy, ep, eq => by cases ep; exact flat_l rfl ⟨m, hy⟩ rfl eq
  | n, m, .str _, y, p, q, hx, hy, ep, eq => by cases ep; exact flat_l rfl ⟨m, hy⟩ rfl eq
  | n, _, .scr _, _, _, _, hx, _, _, _ => by cases n <;> cases hx
  | n, _, .dct _ _, _, _, _, hx, _, _, _ => by cases n <;> cases hx
  | n, _, .dcL _ _, _, _, _, hx, _, _, _ => by cases n <;> cases hx
  | n, _, .dcT _ _, _, _, _, hx, _, _, _ => by cases n <;> cases hx
  | n, _, .fn _ _ _ _ _, _, _, _, hx, _, _, _ => by cases n <;> cases hx
  | n, _, .obj _ _ _, _, _, _, hx, _, _, _ => by cases n <;> cases hx
  | n, _, .loc _, _, _, _, hx, _, _, _ => by cases n <;> cases hx
  | n, _, .exc _, _, _, _, hx, _, _, _ => by cases n <;> cases hx
  | n, _, .cls _, _, _, _, hx, _, _, _ => by cases n <;> cases hx
  | n, _, .ty _, _, _, _, hx, _, _, _ => by cases n <;> cases hx
theorem eqvs_ok : ∀ {n m : Nat} {xs ys : List D} {ps qs : List PyData}, datDs n xs = true → datDs m ys = true → toPs xs = some ps → toPs ys = some qs → PyData.eqvAll ps qs = eqDs xs ys
  | _, _, [], ys, ps, qs, _, hy, ep, eq => by
    cases ep
    cases ys with
    | nil => cases eq; rfl
    | cons y ys =>
      unfold toPs at eq
      cases h1 : toP y with
      | none => rw [h1] at eq; cases eq
      | some q =>
        cases h2 : toPs ys with
        | none => rw [h1, h2] at eq; cases eq
        | some qs' => rw [h1, h2] at eq; cases eq; rfl
  | n, m, x :: xs, ys, ps, qs, hx, hy, ep, eq => by
    have hx' : (datD n x && datDs n xs) = true := hx
    rw [Bool.and_eq_true] at hx'
    unfold toPs at ep
    cases h3 : toP x with
    | none => rw [h3] at ep; cases ep
    | some p =>
      cases h4 : toPs xs with
      | none => rw [h3, h4] at ep; cases ep
      | some ps' =>
        rw [h3, h4] at ep; cases ep
        cases ys with
        | nil => cases eq; rfl
        | cons y ys =>
          have hy' : (datD m y && datDs m ys) = true := hy
          rw [Bool.and_eq_true] at hy'
          unfold toPs at eq
          cases h1 : toP y with
          | none => rw [h1] at eq; cases eq
          | some q =>
            cases h2 : toPs ys with
            | none => rw [h1, h2] at eq; cases eq
            | some qs' =>
              rw [h1, h2] at eq; cases eq
              unfold PyData.eqvAll eqDs
              rw [eqv_ok hx'.1 hy'.1 h3 h1, eqvs_ok hx'.2 hy'.2 h4 h2]
end
theorem shaped_of {p : PyData} (h1 : p.canLay0 = true) (h2 : p.depth ≤ 64) : SeqAt.shaped p = true := by
  unfold SeqAt.shaped
  rw [h1, decide_eq_true h2]; rfl
theorem scD_eqD {x y : D} {b : Bool} (h : scD x y = some b) : b = eqD x y := by
  unfold scD at h
  split at h <;> first | (cases h; rfl) | cases h
theorem noLoc {s : Sto} {n : Nat} {x : D} (h : datD n x = true) : toPc s x = toP x := by
  cases x with
  | lst xs => rfl
  | loc k => cases n <;> cases h
  | _ => rfl
theorem oEq_dat {b : Bool} {x y : D} {s : Sto} (hx : datD 64 x = true) (hy : datD 64 y = true) : oEqG b x y s = .ok (.bl (b != eqD x y)) s := by
  unfold oEqG
  cases h : scD x y with
  | some c => dsimp only; rw [scD_eqD h]
  | none =>
    obtain ⟨p, h1, h2, h3⟩ := dat_ok hx
    obtain ⟨q, h4, h5, h6⟩ := dat_ok hy
    rw [noLoc hx, noLoc hy, h1, h4]
    dsimp only
    rw [shaped_of h2 h3, shaped_of h5 h6, eqv_ok hx hy h1 h4]
    rfl
section
variable {b : Bool} {xs ys : List D} {s : Sto} {a : Int} {z : List Nat}
theorem oEq_ll (hx : datDs 63 xs = true) (hy : datDs 63 ys = true) : oEqG b (.lst xs) (.lst ys) s = .ok (.bl (b != eqDs xs ys)) s := by rw [oEq_dat (x := .lst xs) (y := .lst ys) hx hy]; unfold eqD; rfl
theorem oEq_tt (hx : datDs 63 xs = true) (hy : datDs 63 ys = true) : oEqG b (.tup xs) (.tup ys) s = .ok (.bl (b != eqDs xs ys)) s := by rw [oEq_dat (x := .tup xs) (y := .tup ys) hx hy]; unfold eqD; rfl
theorem oEq_loc {n : Nat} {y : D} (h : s[n]? = some (.lst xs)) (hx : datDs 63 xs = true) (hy : datD 64 y = true) : oEqG b (.loc n) y s = .ok (.bl (b != eqD (.lst xs) y)) s := by
  have e : oEqG b (.loc n) y s = oEqG b (.lst xs) y s := by
    unfold oEqG
    have e1 : scD (.loc n) y = none := by cases y <;> rfl
    have e2 : scD (.lst xs) y = none := by cases y <;> rfl
    have e3 : toPc s (.loc n) = toPc s (.lst xs) := by unfold toPc; simp [h]
    rw [e1, e2, e3]
  rw [e, oEq_dat (x := .lst xs) hx hy]
theorem ints_lay : ∀ ns : List Int, PyData.canLayAll0 (ns.map PyData.int) = true ∧ PyData.depthAll (ns.map PyData.int) = 0
  | [] => ⟨rfl, rfl⟩
  | n :: ns => by
    obtain ⟨h1, h2⟩ := ints_lay ns
    rw [List.map_cons]
    exact ⟨by unfold PyData.canLayAll0; rw [h1]; rfl, by unfold PyData.depthAll; rw [h2]; rfl⟩
/-- the script == [] -/
theorem oEq_scr0 {ns : List Int} : oEqG b (.scr ns) (.lst []) s = .ok (.bl (b != ns.isEmpty)) s := by
  unfold oEqG
  obtain ⟨h1, h2⟩ := ints_lay ns
  have e1 : toPc s (.scr ns) = some (.list (ns.map PyData.int)) := rfl
  have e2 : toPc s (.lst []) = some (.list []) := rfl
  have e3 : SeqAt.shaped (.list (ns.map PyData.int)) = true := shaped_of (by unfold PyData.canLay0; exact h1) (by unfold PyData.depth; rw [h2]; decide)
  have e4 : scD (.scr ns) (.lst []) = none := rfl
  rw [e4, e1, e2]
  dsimp only
  rw [e3, show SeqAt.shaped (.list []) = true from shaped_of rfl (by decide)]
  cases ns <;> rfl
@[simp] theorem datDs_nil {n : Nat} : datDs n [] = true := by cases n <;> rfl
@[simp] theorem datDs_cons {n : Nat} {x : D} : datDs n (x :: xs) = (datD n x && datDs n xs) := by cases n <;> rfl
@[simp] theorem datD_non {n : Nat} : datD n .non = true := by cases n <;> rfl
@[simp] theorem datD_bl {n : Nat} {c : Bool} : datD n (.bl c) = true := by cases n <;> rfl
@[simp] theorem datD_int {n : Nat} : datD n (.int a) = true := by cases n <;> rfl
@[simp] theorem datD_str {n : Nat} : datD n (.str z) = okS z := by cases n <;> rfl
@[simp] theorem datD_lst {n : Nat} : datD (n + 1) (.lst xs) = datDs n xs := rfl
@[simp] theorem datD_tup {n : Nat} : datD (n + 1) (.tup xs) = datDs n xs := rfl
@[simp] theorem eqDs_nil : eqDs [] [] = true := rfl
@[simp] theorem eqDs_cn {x : D} : eqDs (x :: xs) [] = false := rfl
@[simp] theorem eqDs_nc {x : D} : eqDs [] (x :: xs) = false := rfl
@[simp] theorem eqDs_cc {x y : D} : eqDs (x :: xs) (y :: ys) = (eqD x y && eqDs xs ys) := rfl
@[simp] theorem eqD_int {c : Int} : eqD (.int a) (.int c) = (a == c) := rfl
@[simp] theorem eqD_str {y : List Nat} : eqD (.str z) (.str y) = (z == y) := rfl
@[simp] theorem eqD_bl {c d : Bool} : eqD (.bl c) (.bl d) = (c == d) := rfl
@[simp] theorem eqD_ll : eqD (.lst xs) (.lst ys) = eqDs xs ys := by unfold eqD; rfl
@[simp] theorem eqD_tt : eqD (.tup xs) (.tup ys) = eqDs xs ys := by unfold eqD; rfl
@[simp] theorem eqD_il : eqD (.int a) (.lst ys) = false := rfl
@[simp] theorem eqD_sl : eqD (.str z) (.lst ys) = false := rfl
@[simp] theorem eqD_nl : eqD .non (.lst ys) = false := rfl
@[simp] theorem eqD_li : eqD (.lst xs) (.int a) = false := rfl
@[simp] theorem eqD_ls : eqD (.lst xs) (.str z) = false := rfl
@[simp] theorem eqD_it : eqD (.int a) (.tup ys) = false := rfl
@[simp] theorem eqD_st : eqD (.str z) (.tup ys) = false := rfl
@[simp] theorem eqD_ti : eqD (.tup xs) (.int a) = false := rfl
@[simp] theorem eqD_ts : eqD (.tup xs) (.str z) = false := rfl
@[simp] theorem eqD_lt : eqD (.lst xs) (.tup ys) = false := rfl
@[simp] theorem eqD_tl : eqD (.tup xs) (.lst ys) = false := rfl
end
/-! ## texts: where one sign stands -/
theorem sub1 {t : List Nat} {c i : Nat} : Builtin.Str.subAt (S t) (S [c]) i = decide (t[i]? = some c) := by
  unfold Builtin.Str.subAt
  have e : (S t).cps.extract i (i + (S [c]).length) = ((t.drop i).take 1).toArray := by
    rw [S_len]
    simp [S, List.extract_toArray, List.extract_eq_take_drop]
  rw [e]
  by_cases h : i < t.length
  · rw [List.drop_eq_getElem_cons h, List.take_succ_cons, List.take_zero, List.getElem?_eq_getElem h]
    by_cases h2 : t[i] = c <;> simp [h2, S]
  · rw [List.drop_eq_nil_of_le (by omega), List.getElem?_eq_none (by omega)]
    simp [S]
theorem at1 {t : List Nat} {c i : Nat} : StrLaws.At (S t) (S [c]) (S t).length i ↔ t[i]? = some c := by
  unfold StrLaws.At
  rw [sub1, S_len, S_len]
  constructor
  · rintro ⟨_, h⟩
    simpa using h
  · intro h
    have := (List.getElem?_eq_some_iff.mp h).1
    exact ⟨this, by simpa using h⟩
theorem occ1 {p q : List Nat} {c : Nat} (h : c ∉ p) : ∃ r, Builtin.Str.occurrences (S (p ++ c :: q)) (S [c]) 0 (S (p ++ c :: q)).length 1 = p.length :: r := by
  rcases StrLaws.occ_head (S (p ++ c :: q)) (S [c]) 1 (Nat.le_refl _) with ⟨_, hn⟩ | ⟨i, r, e, ha, hn⟩
  · exact absurd (at1.mpr (by simp)) (hn p.length)
  · refine ⟨r, ?_⟩
    rw [e]
    congr 1
    have h1 := at1.mp ha
    rcases Nat.lt_trichotomy i p.length with hl | he | hg
    · rw [List.getElem?_append_left hl] at h1
      exact absurd (List.mem_of_getElem? h1) h
    · exact he
    · exact absurd (at1.mpr (by simp)) (hn p.length hg)
theorem occ0 {p : List Nat} {c : Nat} (h : c ∉ p) : Builtin.Str.occurrences (S p) (S [c]) 0 (S p).length 1 = [] := by
  rcases StrLaws.occ_head (S p) (S [c]) 1 (Nat.le_refl _) with ⟨e, hn⟩ | ⟨i, r, e, ha, hn⟩
  · exact e
  · exact absurd (List.mem_of_getElem? (at1.mp ha)) h
theorem find1 {p q : List Nat} {c : Nat} (h : c ∉ p) : Txt.find (S (p ++ c :: q)) (S [c]) = p.length := by
  obtain ⟨r, e⟩ := occ1 (q := q) h
  unfold Txt.find
  rw [e]
theorem find0 {p : List Nat} {c : Nat} (h : c ∉ p) : Txt.find (S p) (S [c]) = -1 := by
  unfold Txt.find
  rw [occ0 h]
theorem starts1 {a c : Nat} {r : List Nat} : Txt.startswith (S (a :: r)) (S [c]) = (a == c) := by
  unfold Txt.startswith
  rw [sub1, S_len, S_len]
  by_cases h : a = c <;> simp [h]
theorem starts0 {c : Nat} : Txt.startswith (S []) (S [c]) = false := by
  unfold Txt.startswith
  rw [S_len, S_len]
  rfl
theorem sIx_nat {n d i : Nat} (h : i ≤ n) : HT.sIx n d (some (i : Int)) = i := by
  rw [HT.sIx_nat]; omega
theorem cutL_to {α : Type} {a b : List α} {i : Int} (h : i = (a.length : Int)) : cutL (a ++ b) none (some i) = a := by
  subst h
  unfold cutL
  rw [sIx_nat (by simp)]
  simp [HT.sIx]
theorem cutL_from {α : Type} {a b : List α} {i : Int} (h : i = (a.length : Int)) : cutL (a ++ b) (some i) none = b := by
  subst h
  unfold cutL
  rw [sIx_nat (by simp)]
  simp [HT.sIx]
end Mp
/-! # MpJ -/
namespace Mp
open PySem PySem.Spec L2 PyProof.Rows
/-! ## objects of own classes -/
structure ObT (K : PySem.W.Frag) (ca : Nat → Addr) (fm : Nat → Str) (cs : List Nat) (nF : Nat) : Prop where
  cls : ∀ c ∈ cs, Cls K (ca c)
  noat : ∀ c ∈ cs, ∀ i, i < nF → NoAttr K (ca c) (fm i)
  inj : ∀ i, i < nF → ∀ j, j < nF → fm i = fm j → i = j
  ha : ∀ c ∈ cs, PySem.W.findIn K (.ref (ca c)) "__class__" = some (some (.builtin "object.__class__"))
  hn : PySem.W.specialIn K (.builtin "object.__class__") "__get__" = some (some (.builtin "getset_descriptor.__get__"))
  htk : PySem.W.takesIn K (.builtin "object.__class__") = some true
  hm : ∀ c ∈ cs, PySem.W.mroIn K (ca c) (.type "object") = some true
def ob1 (K : PySem.W.Frag) (C : Addr) (fm : Nat → Str) (nF : Nat) : Bool :=
  PySem.W.plainGet K C Str.empty && (PySem.W.hasDictIn K C && (PySem.W.plainOver K C && (decide (PySem.W.findIn K (.ref C) "__setattr__" = some (some (.builtin "object.__setattr__"))) &&
  (decide (PySem.W.findIn K (.ref C) "__class__" = some (some (.builtin "object.__class__"))) && (decide (PySem.W.mroIn K C (.type "object") = some true) && (List.range nF).all fun i => decide (PySem.W.findIn K (.ref C) (fm i) = some none))))))
def obB (ca : PySem.W.Frag → Nat → Addr) (fm : Nat → Str) (cs : List Nat) (nF : Nat) (K : PySem.W.Frag) : Bool :=
  decide (PySem.W.specialIn K (.builtin "object.__class__") "__get__" = some (some (.builtin "getset_descriptor.__get__"))) && (decide (PySem.W.takesIn K (.builtin "object.__class__") = some true) && cs.all fun c => ob1 K (ca K c) fm nF)
theorem obT_of {ca : PySem.W.Frag → Nat → Addr} {fm : Nat → Str} {cs : List Nat} {nF : Nat} {K : PySem.W.Frag} (h : obB ca fm cs nF K = true) (inj : ∀ i, i < nF → ∀ j, j < nF → fm i = fm j → i = j) : ObT K (ca K) fm cs nF := by
  unfold obB at h
  simp only [Bool.and_eq_true, decide_eq_true_eq] at h
  obtain ⟨h1, h2, h3⟩ := h
  rw [List.all_eq_true] at h3
  have one : ∀ c ∈ cs, ob1 K (ca K c) fm nF = true := h3
  have go : ∀ c ∈ cs, Cls K (ca K c) ∧ PySem.W.findIn K (.ref (ca K c)) "__class__" = some (some (.builtin "object.__class__")) ∧ PySem.W.mroIn K (ca K c) (.type "object") = some true ∧ ∀ i, i < nF → NoAttr K (ca K c) (fm i) := fun c hc => by
    have z := one c hc
    unfold ob1 at z
    simp only [Bool.and_eq_true, decide_eq_true_eq] at z
    obtain ⟨z1, z2, z3, z4, z5, z6, z7⟩ := z
    rw [List.all_eq_true] at z7
    exact ⟨⟨z1, z2, z3, z4⟩, z5, z6, fun i hi => of_decide_eq_true (p := PySem.W.findIn K (.ref (ca K c)) (fm i) = some none) (z7 i (List.mem_range.mpr hi))⟩
  exact ⟨fun c hc => (go c hc).1, fun c hc => (go c hc).2.2.2, inj, fun c hc => (go c hc).2.1, h1, h2, fun c hc => (go c hc).2.2.1⟩
def obOf (s : Sto) : D → Option (Nat × List Nat × List D)
  | .obj c ns vs => some (c, ns, vs)
  | .loc n => match s[n]? with
    | some (.obj c ns vs) => some (c, ns, vs)
    | _ => none
  | _ => none
/-- the field i -/
def lkF (i : Nat) : List Nat → List D → Option D
  | n :: ns, v :: vs => if n = i then some v else lkF i ns vs
  | _, _ => none
/-- the field i is set -/
def putN (i : Nat) : List Nat → List Nat
  | [] => [i]
  | n :: ns => if n = i then n :: ns else n :: putN i ns
def putD (i : Nat) (d : D) : List Nat → List D → List D
  | n :: ns, v :: vs => if n = i then d :: vs else v :: putD i d ns vs
  | _, _ => [d]
section
variable {T : Tb}
theorem ob_of {P : Hp} {ι : List Addr} {F : Hp} {s : Sto} {H : Hp} {d : D} {v : V} {c : Nat} {ns : List Nat} {vs : List D} (R : RelH T P ι F s H) (r : Rp T F ι d v) (h : obOf s d = some (c, ns, vs)) :
    ∃ a dx fs, v = .ref a ∧ H a = some (.ins (T.ca c) dx fs) ∧ fs.map (·.1) = ns.map T.fm ∧ Rps T F ι vs (fs.map (·.2)) := by
  unfold obOf at h
  split at h
  · cases h
    unfold Rp at r
    obtain ⟨a, dx, fs, h1, h2, h3, h4⟩ := r
    exact ⟨a, dx, fs, h1, R.sub _ _ h2, h3, h4⟩
  · unfold Rp at r
    obtain ⟨a, e1, rfl⟩ := r
    split at h
    · rename_i hs
      cases h
      obtain ⟨_, dx, fs, h2, h3, h4⟩ := R.cell _ _ _ hs e1
      exact ⟨a, dx, fs, rfl, h2, h3, h4⟩
    · cases h
  · cases h
theorem lk_ok {fm : Nat → Str} {nF i : Nat} (inj : ∀ i, i < nF → ∀ j, j < nF → fm i = fm j → i = j) (hi : i < nF) {F : Hp} {ι : List Addr} {d : D} : ∀ {ns : List Nat} {vs : List D} {fs : List (Str × V)}, (∀ n ∈ ns, n < nF) → fs.map (·.1) = ns.map fm → Rps T F ι vs (fs.map (·.2)) → lkF i ns vs = some d → ∃ v, fs.lookup (fm i) = some v ∧ Rp T F ι d v
  | [], vs, fs, _, _, _, h => by cases vs <;> cases h
  | n :: ns, [], fs, _, _, _, h => by cases h
  | n :: ns, v :: vs, fs, hn, e, r, h => by
    cases fs with
    | nil => cases e
    | cons f fs =>
      obtain ⟨g, x⟩ := f
      rw [List.map_cons, List.map_cons] at e
      injection e with e1 e2
      unfold Rps at r
      obtain ⟨u, us, e3, r1, r2⟩ := r
      rw [List.map_cons] at e3
      injection e3 with e4 e5
      subst e4 e5
      have h' : (if n = i then some v else lkF i ns vs) = some d := h
      by_cases c : n = i
      · rw [if_pos c] at h'
        cases h'
        have e1' : g = fm i := by rw [← c]; exact e1
        refine ⟨x, ?_, r1⟩
        rw [List.lookup_cons, e1']
        simp
      · rw [if_neg c] at h'
        obtain ⟨w, h1, h2⟩ := lk_ok inj hi (fun m hm => hn m (List.mem_cons_of_mem _ hm)) e2 r2 h'
        refine ⟨w, ?_, h2⟩
        have ne : (fm i == g) = false := by
          rw [beq_eq_false_iff_ne]
          intro z
          have e1' : g = fm n := e1
          rw [e1'] at z
          exact c (inj _ hi _ (hn n List.mem_cons_self) z).symm
        rw [List.lookup_cons, ne]
        exact h1
theorem lk_none {fm : Nat → Str} {m : Str} : ∀ {ns : List Nat} {fs : List (Str × V)}, (∀ n ∈ ns, fm n ≠ m) → fs.map (·.1) = ns.map fm → fs.lookup m = none
  | [], fs, _, e => by
    cases fs with
    | nil => rfl
    | cons f fs => cases e
  | n :: ns, fs, hn, e => by
    cases fs with
    | nil => cases e
    | cons f fs =>
      obtain ⟨g, x⟩ := f
      rw [List.map_cons, List.map_cons] at e
      injection e with e1 e2
      have e1' : g = fm n := e1
      rw [List.lookup_cons, e1']
      have ne : (m == fm n) = false := by
        rw [beq_eq_false_iff_ne]
        exact fun z => hn n List.mem_cons_self z.symm
      rw [ne]
      exact lk_none (fun m hm => hn m (List.mem_cons_of_mem _ hm)) e2
theorem put_ok {fm : Nat → Str} {nF i : Nat} (inj : ∀ i, i < nF → ∀ j, j < nF → fm i = fm j → i = j) (hi : i < nF) {F : Hp} {ι : List Addr} {d : D} {v : V} (rd : Rp T F ι d v) : ∀ {ns : List Nat} {vs : List D} {fs : List (Str × V)}, (∀ n ∈ ns, n < nF) → fs.map (·.1) = ns.map fm → Rps T F ι vs (fs.map (·.2)) →
    (putF (fm i) v fs).map (·.1) = (putN i ns).map fm ∧ Rps T F ι (putD i d ns vs) ((putF (fm i) v fs).map (·.2))
  | [], vs, fs, _, e, r => by
    cases fs with
    | cons f fs => cases e
    | nil =>
      have : vs = [] := by
        cases vs with
        | nil => rfl
        | cons _ _ => unfold Rps at r; obtain ⟨_, _, z, _⟩ := r; cases z
      subst this
      exact ⟨rfl, .cons rd .nil⟩
  | n :: ns, vs, fs, hn, e, r => by
    cases fs with
    | nil => cases e
    | cons f fs =>
      obtain ⟨g, x⟩ := f
      rw [List.map_cons, List.map_cons] at e
      injection e with e1 e2
      have e1' : g = fm n := e1
      cases vs with
      | nil => unfold Rps at r; cases r
      | cons w vs =>
        unfold Rps at r
        obtain ⟨u, us, e3, r1, r2⟩ := r
        rw [List.map_cons] at e3
        injection e3 with e4 e5
        subst e4 e5
        unfold putF putN putD
        by_cases c : n = i
        · have e6 : g = fm i := by rw [e1', c]
          rw [if_pos e6, if_pos c, if_pos c]
          exact ⟨by rw [List.map_cons, List.map_cons, e2, e1'], .cons rd r2⟩
        · have e6 : ¬ g = fm i := fun z => c (inj _ (hn n List.mem_cons_self) _ hi (by rw [← e1']; exact z))
          rw [if_neg e6, if_neg c, if_neg c]
          obtain ⟨h1, h2⟩ := put_ok inj hi rd (fun m hm => hn m (List.mem_cons_of_mem _ hm)) e2 r2
          exact ⟨by rw [List.map_cons, List.map_cons, h1, e1'], .cons r1 h2⟩
end
/-! ## e.f, e.f = v -/
def okN (nF : Nat) (ns : List Nat) : Bool := ns.all fun n => decide (n < nF)
theorem okN_ok {nF : Nat} {ns : List Nat} (h : okN nF ns = true) : ∀ n ∈ ns, n < nF := fun n hn => of_decide_eq_true (List.all_eq_true.mp h n hn)
def dFld (cs : List Nat) (nF i : Nat) (f : DE) : DE := fun δ s => (f δ s).bind fun x s1 => match obOf s1 x with
  | some (c, ns, vs) => if (decide (c ∈ cs) && okN nF ns) = true then match lkF i ns vs with
    | some d => .ok d s1
    | none => .stuck
    else .stuck
  | none => .stuck
section
variable {T : Tb} {X : Cx} {cs : List Nat} {nF : Nat}
theorem d_fld {e : Expr} {f : Str} {pos : Pos} {g : DE} (i : Nat) (ob : ObT T.K T.ca T.fm cs nF) (he : PDe T X e g) (hf : f = T.fm i := by rfl) (hi : i < nF := by decide) (hb : attributeBase e f X.env (eval e X.env) = eval e X.env := by rfl) (hK : X.K = T.K := by rfl) :
    PDe T X (.Attribute e f pos) (dFld cs nF i g) := fun pn xe W tk => by
  obtain ⟨t1, p1, d1⟩ := he pn xe W tk
  refine ⟨_, pe_fld (X := X.tr pn xe) p1 hb, fun σ H P ι F δ s Q R E post => ?_⟩
  have hK' : (X.tr pn xe).K = T.K := hK
  rw [hK']
  show t1 σ H _
  refine den_then d1 R E post fun x y H1 ι1 F1 s1 g1 R1 E1 r1 post1 => ?_
  cases q : obOf s1 x with
  | none => rw [q] at post1; exact post1.elim
  | some z =>
    obtain ⟨c, ns, vs⟩ := z
    rw [q] at post1
    dsimp only at post1
    split at post1
    · rename_i hc
      simp only [Bool.and_eq_true, decide_eq_true_eq] at hc
      split at post1
      · rename_i d hd
        obtain ⟨a, dx, fs, rfl, h2, h3, h4⟩ := ob_of R1 r1 q
        obtain ⟨v, h5, h6⟩ := lk_ok ob.inj hi (okN_ok hc.2) h3 h4 hd
        exact ⟨a, _, dx, fs, v, rfl, h2, ob.cls c hc.1, by rw [hf]; exact ob.noat c hc.1 i hi, by rw [hf]; exact h5, post1.here R1 h6⟩
      · exact post1.elim
    · exact post1.elim
/-- o.f = v, o a cell -/
def sFldS (cs : List Nat) (nF i : Nat) (fv fo : DE) : DS := fun δ s => (fv δ s).out δ fun d s1 => (fo δ s1).out δ fun o s2 => match o with
  | .loc n => match s2[n]? with
    | some (.obj c ns vs) => if (decide (c ∈ cs) && (okN nF ns && decide (ns.length < 1000))) = true then .nx δ (s2.set n (.obj c (putN i ns) (putD i d ns vs))) else .stuck
    | _ => .stuck
  | _ => .stuck
theorem s_fld {o value : Expr} {f : Str} {pos pos' : Pos} {fv fo : DE} (i : Nat) (ob : ObT T.K T.ca T.fm cs nF) (hv : PDe T X value fv) (ho : PDe T X o fo) (hf : f = T.fm i := by rfl) (hi : i < nF := by decide)
    (hs : swapsWith value (some (.Attribute o f pos')) pos.line X.env = pure false := by rfl) (hK : X.K = T.K := by rfl) : PDs T X (.Assign [.Attribute o f pos'] value pos) (sFldS cs nF i fv fo) := fun pn xe W tk _ => by
  obtain ⟨t1, p1, d1⟩ := hv pn xe W tk
  obtain ⟨t2, p2, d2⟩ := ho pn xe W tk
  refine ⟨_, ps_fld (X := X.tr pn xe) p2 p1 hs, fun En σ H P ι F δ s R E post => ?_⟩
  have hK' : (X.tr pn xe).K = T.K := hK
  rw [hK']
  show t1 σ H _
  refine dens_then d1 R E post fun x y H1 ι1 F1 s1 g1 R1 E1 r1 post1 => ?_
  refine dens_then d2 R1 E1 post1 fun x2 y2 H2 ι2 F2 s2 g2 R2 E2 r2 post2 => ?_
  split at post2
  · rename_i n
    split at post2
    · rename_i c ns vs hs2
      split at post2
      · rename_i hc
        simp only [Bool.and_eq_true, decide_eq_true_eq] at hc
        unfold Rp at r2
        obtain ⟨a, e1, rfl⟩ := r2
        obtain ⟨h1, dx, fs, h2, h3, h4⟩ := R2.cell _ _ _ hs2 e1
        have hl : fs.length = ns.length := by
          have := congrArg List.length h3
          simpa using this
        obtain ⟨h5, h6⟩ := put_ok ob.inj hi (r1.mono g2) (okN_ok hc.2.1) h3 h4
        refine ⟨a, _, dx, fs, rfl, h2, ob.cls c hc.1, by rw [hf]; exact ob.noat c hc.1 i hi, by rw [hl]; exact hc.2.2, ?_⟩
        rw [hf]
        exact post2 σ _ ι2 F2 (Grow.refl _ _) (R2.setC hs2 rfl e1 ⟨h1, dx, _, upd_same, h5, h6⟩) E2
      · exact post2.elim
    · exact post2.elim
  · exact post2.elim
end
/-! ## methods -/
/-- the class c has, under m, the def that does what φ tells -/
structure Mc (T : Tb) (P : Program) (w : World) (mg : Str → Option Value) (base : Heap) (c : Nat) (m : Str) (k n : Nat) (φ : List D → Sto → Res D) : Prop where
  ex : ∃ (f : Addr) (fd : FuncData) (ps : List Str), Cls T.K (T.ca c) ∧ Meth T.K (T.ca c) m f ∧ Binds T.K fd ps [] ∧ FnOk P w T.K mg base (L2.CX P w) k f fd ps (spD T n φ)
theorem Mc.up {T : Tb} {P : Program} {w : World} {mg : Str → Option Value} {base : Heap} {c : Nat} {m : Str} {j k n : Nat} {φ : List D → Sto → Res D} (h : Mc T P w mg base c m j n φ) (hk : j ≤ k) : Mc T P w mg base c m k n φ := by
  obtain ⟨f, fd, ps, h1, h2, h3, h4⟩ := h.ex
  exact ⟨f, fd, ps, h1, h2, h3, h4.mono hk⟩
def tMethS (C : Addr) (m : Str) (sp : Sp) (E : L2.St → XK) (ta : TE) (t : TA) : TE := fun σ H Q => ta σ H fun x H1 => ∃ a dx fs, x = .ref a ∧ H1 a = some (.ins C dx fs) ∧ fs.lookup m = none ∧ t σ H1 fun vs H2 => sp (x :: vs) H2 Q (E σ)
section
variable {X : Cx} {CX : CXT} {k : Nat} {f C : Addr} {fd : FuncData} {ps : List Str} {sp : Sp} {E : L2.St → XK} {x m : Str} {p pos apos : Pos} {e o : Expr} {es : List Expr} {ta : TE} {t : TA}
theorem pe_methS {pl : Sem Bool} (he : PE X o ta) (c : Cls X.K C) (hm : Meth X.K C m f) (F : FnOk X.prog X.w X.K X.mg X.base CX k f fd ps sp) (hr : Room k X.A) (hb : Binds X.K fd ps []) (hx : ∀ σ, PassesAt CX X σ (E σ)) (ha : PA X (e :: es) t)
    (hst : starEach (e :: es) X.env = (false, eval e X.env) :: starEach es X.env := by rfl) (hpl : (backTo pos (starEach es X.env)).any (·.1) = false := by rfl)
    (ht : eval (.Call (.Attribute o m apos) (e :: es) [] pos) X.env = (do
      let ov ← eval o X.env
      standAt apos.atName
      let (f, first) ← holding [ov] (getMethod ov m pl)
      callWith pos f first (backTo pos (starEach (e :: es) X.env)) (backToKw pos (keywordEach [] X.env))) := by rfl) :
    PE X (.Call (.Attribute o m apos) (e :: es) [] pos) (tMethS C m sp E ta t) := by
  refine ⟨fun pins s σ H Q I h => ?_⟩
  refine PySem.W.methodCall_KW (pl := pl) (thn (he.run pins s σ H _ I h) fun u s1 ⟨x, H1, I1, rx, a, dx, fs, ex, ea, l, q⟩ => ?_) ht
  subst ex
  obtain rfl : u = Value.ref a := rx
  refine getmeth_ok I1 ea c hm l ?_
  refine PySem.W.callWith_K (first := [.ref a]) (h₀ := X.base) I.ok.mod.kin hm.kp (thn (ha.run pos pins s1 σ H1 _ I1 q) fun us s2 ⟨vs, H2, I2, r, q2⟩ => ⟨I2.kIn, ?_⟩) hst hpl
  exact run_fnS (us := .ref a :: us) (vs := .ref a :: vs) F hr hb (hx σ) I2 (.cons rfl r) q2
theorem pe_methS0 {pl : Sem Bool} (he : PE X o ta) (c : Cls X.K C) (hm : Meth X.K C m f) (F : FnOk X.prog X.w X.K X.mg X.base CX k f fd ps sp) (hr : Room k X.A) (hb : Binds X.K fd ps []) (hx : ∀ σ, PassesAt CX X σ (E σ))
    (ht : eval (.Call (.Attribute o m apos) [] [] pos) X.env = (do
      let ov ← eval o X.env
      standAt apos.atName
      let (f, first) ← holding [ov] (getMethod ov m pl)
      callWith pos f first (backTo pos (starEach [] X.env)) (backToKw pos (keywordEach [] X.env))) := by rfl) :
    PE X (.Call (.Attribute o m apos) [] [] pos) (tMethS C m sp E ta tNil) := by
  refine ⟨fun pins s σ H Q I h => ?_⟩
  refine PySem.W.methodCall_KW (pl := pl) (thn (he.run pins s σ H _ I h) fun u s1 ⟨x, H1, I1, rx, a, dx, fs, ex, ea, l, q⟩ => ?_) ht
  subst ex
  obtain rfl : u = Value.ref a := rx
  refine getmeth_ok I1 ea c hm l ?_
  exact PySem.W.callWith_K0 (first := [.ref a]) I1.kIn hm.kp (run_fnS (us := [.ref a]) (vs := [.ref a]) F hr hb (hx σ) I1 (.cons rfl .nil) q)
/-- C(..): a new instance, then its __init__ -/
def tMakeS (C : Addr) (sp : Sp) (E : L2.St → XK) (t : TA) : TE := fun σ H Q => t σ H fun vs H1 => ∀ x dx, H1 x = none → H1 dx = none → dx ≠ x →
  sp (.ref x :: vs) (upd (upd H1 dx (.own x)) x (.ins C dx [])) (fun v H2 => v = .non ∧ Q (.ref x) H2) (E σ)
theorem run_makeS {pins : List (Addr × Obj)} {σ : L2.St} {H : Hp} {s : Shared} {Q : VK} {us : List Value} {vs : List V} (M : Mk X.K C f) (F : FnOk X.prog X.w X.K X.mg X.base CX k f fd ps sp) (hr : Room (k + 1) X.A) (hb : Binds X.K fd ps [])
    (hx : PassesAt CX X σ (E σ)) (I : Inv X pins σ H s) (r : Vals vs us)
    (h : ∀ x dx, H x = none → H dx = none → dx ≠ x → sp (.ref x :: vs) (upd (upd H dx (.own x)) x (.ins C dx [])) (fun v H2 => v = .non ∧ Q (.ref x) H2) (E σ)) :
    wpAny (model X.prog X.w) X.A (call (.ref C) us) (EP X pins σ Q) X.xe s := by
  have hq := h (s.heap.objs.size + 1) s.heap.objs.size (I.hok.fresh (Nat.le_succ _)) (I.hok.fresh (Nat.le_refl _)) (Nat.ne_of_lt (Nat.lt_succ_self _))
  have I2 := Inv.made (C := C) I
  have r2 : Vals (V.ref (s.heap.objs.size + 1) :: vs) (Value.ref (s.heap.objs.size + 1) :: us) := .cons rfl r
  have hl : (Value.ref (s.heap.objs.size + 1) :: us).length = ps.length := by
    have e := r2.length
    rw [F.len _ _ _ _ hq] at e
    exact e.symm
  have b := hb _ (Value.ref (s.heap.objs.size + 1) :: us) I2.kIn (by rw [List.append_nil]; exact hl)
  rw [List.append_nil] at b
  refine wpAny_call (make_map (f := f) I.kIn M.makes M.init (beq_iff_eq.mp M.fn) (codeAny_mono (F.run _ X.stack _ _ ⟨Value.ref (s.heap.objs.size + 1) :: us, []⟩ (Value.ref (s.heap.objs.size + 1) :: us) _ _ (E σ) (hr.make C us [])
    (I2.env0.make C us []) b r2 hq) fun r s' hq' => ?_))
  cases r with
  | error e => exact hx pins _ _ e s' I2 hq'
  | ok fl =>
    cases fl with
    | ret u =>
      obtain ⟨v, H', I3, rv, ev, q3⟩ := I2.after hq'
      subst ev
      exact ⟨rv, ⟨V.ref (s.heap.objs.size + 1), H', I3, rfl, q3⟩⟩
    | next => exact False.elim hq'
    | brk => exact False.elim hq'
    | cont => exact False.elim hq'
theorem pe_makeS (M : Mk X.K C f) (F : FnOk X.prog X.w X.K X.mg X.base CX k f fd ps sp) (hr : Room (k + 1) X.A) (hg : Gl X x) (hm : X.mg x = some (.ref C)) (hb : Binds X.K fd ps []) (hx : ∀ σ, PassesAt CX X σ (E σ))
    (ha : PA X (e :: es) t) (hdb : (x == ("__debug__" : Str)) = false := by decide) (he : starEach (e :: es) X.env = (false, eval e X.env) :: starEach es X.env := by rfl) (hpl : (backTo pos (starEach es X.env)).any (·.1) = false := by rfl) :
    PE X (.Call (.Name x p) (e :: es) [] pos) (tMakeS C sp E t) := by
  refine ⟨fun pins s σ H Q I h => ?_⟩
  refine wpAny_Call_Name_kw (ld_glob I hg hm ?_ hdb)
  refine PySem.W.callWith_K (h₀ := X.base) I.ok.mod.kin M.kp (thn (ha.run pos pins s σ H _ I h) fun us s1 ⟨vs, H1, I1, r, q⟩ => ⟨I1.kIn, ?_⟩) he hpl
  exact run_makeS M F hr hb (hx σ) I1 r q
theorem pe_makeS0 (M : Mk X.K C f) (F : FnOk X.prog X.w X.K X.mg X.base CX k f fd ps sp) (hr : Room (k + 1) X.A) (hg : Gl X x) (hm : X.mg x = some (.ref C)) (hb : Binds X.K fd ps []) (hx : ∀ σ, PassesAt CX X σ (E σ))
    (hdb : (x == ("__debug__" : Str)) = false := by decide) : PE X (.Call (.Name x p) [] [] pos) (tMakeS C sp E tNil) := by
  refine ⟨fun pins s σ H Q I h => ?_⟩
  refine wpAny_Call_Name_kw (ld_glob I hg hm ?_ hdb)
  exact PySem.W.callWith_K0 I.kIn M.kp (run_makeS (us := []) M F hr hb (hx σ) I .nil h)
end
/-- so much of the table: the receiver's class picks the def -/
def dMeth (nF : Nat) (tbl : List (Nat × (List D → Sto → Res D))) (f : DE) (fa : DA) : DE := fun δ s => (f δ s).bind fun x s1 => match obOf s1 x with
  | some (c, ns, _) => if okN nF ns = true then match tbl.lookup c with
    | some φ => (fa δ s1).bind fun ds s2 => φ (x :: ds) s2
    | none => .stuck
    else .stuck
  | none => .stuck
theorem PE.orE {X : Cx} {e : Expr} {t t' : TE} (h : PE X e t) (h' : PE X e t') : PE X e (fun σ H Q => t σ H Q ∨ t' σ H Q) := ⟨fun pins s σ H Q I q => by
  rcases q with q | q
  · exact h.run pins s σ H Q I q
  · exact h'.run pins s σ H Q I q⟩
section
variable {T : Tb} {X : Cx} {nF j k : Nat} {m : Str}
theorem den_meth1 {W : WX} {n c : Nat} {φ : List D → Sto → Res D} {tbl : List (Nat × (List D → Sto → Res D))} {t1 : TE} {t2 : TA} {f : DE} {fa : DA} (d1 : DenG T (Rp T) W t1 f) (d2 : DenG T (RpsN T n) W t2 fa) (hmf : ∀ i, i < nF → T.fm i ≠ m) (hl : tbl.lookup c = some φ)
    {σ : L2.St} {H P : Hp} {ι : List Addr} {F : Hp} {δ : Env} {s : Sto} {Q : VK} (R : RelH T P ι F s H) (E : REnv T F ι δ σ) (post : Post T P (Rp T) Q (fun c H' => W (.ref (T.ca c)) none σ H') F ι (dMeth nF tbl f fa δ s))
    (hsel : ∀ x s1, f δ s = .ok x s1 → ∃ ns vs, obOf s1 x = some (c, ns, vs)) : tMethS (T.ca c) m (spD T (n + 1) φ) (WE W) t1 t2 σ H Q := by
  show t1 σ H _
  unfold dMeth at post
  refine d1 σ H P ι F δ s _ R E ?_
  cases e : f δ s with
  | exc k s1 => rw [e] at post; exact post
  | stuck => rw [e] at post; exact post
  | ok x s1 =>
    rw [e] at post
    obtain ⟨ns, vs, ho⟩ := hsel x s1 e
    intro y H1 ι1 F1 g1 R1 r1
    have post1 := Post.mono g1 (show Post T P (Rp T) Q (fun c H' => W (.ref (T.ca c)) none σ H') F ι (match obOf s1 x with
      | some (c, ns, _) => if okN nF ns = true then match tbl.lookup c with
        | some φ => (fa δ s1).bind fun ds s2 => φ (x :: ds) s2
        | none => .stuck
        else .stuck
      | none => .stuck) from post)
    rw [ho] at post1
    dsimp only at post1
    split at post1
    · rename_i hn
      rw [hl] at post1
      dsimp only at post1
      obtain ⟨a, dx, fs, rfl, h2, h3, h4⟩ := ob_of R1 r1 ho
      refine ⟨a, dx, fs, rfl, h2, lk_none (fun i hi => hmf i (okN_ok hn i hi)) h3, ?_⟩
      refine den_then d2 R1 (E.mono g1) post1 fun ds us H2 ι2 F2 s2 g2 R2 E2 r2 post2 => ?_
      exact ⟨by rw [List.length_cons, r2.2], P, ι2, F2, s2, x :: ds, R2, .cons (r1.mono g2) r2.1, post2⟩
    · exact post1.elim
/-- the receivers' classes, one after another -/
theorem meth_list {e : Expr} {n : Nat} {f : DE} {fa : DA} {tbl : List (Nat × (List D → Sto → Res D))} {pn : List (Addr × Obj)} {xe : Value → Shared → Prop} {W : WX} {t1 : TE} {t2 : TA} (d1 : DenG T (Rp T) W t1 f) (d2 : DenG T (RpsN T n) W t2 fa) (hmf : ∀ i, i < nF → T.fm i ≠ m)
    (h0 : PE (X.tr pn xe) e (fun σ H _ => t1 σ H fun _ _ => False)) : ∀ (l : List (Nat × (List D → Sto → Res D))), (∀ p ∈ l, tbl.lookup p.1 = some p.2 ∧ PE (X.tr pn xe) e (tMethS (T.ca p.1) m (spD T (n + 1) p.2) (WE W) t1 t2)) →
      ∃ t, PE (X.tr pn xe) e t ∧ ∀ σ H P ι F δ s Q, RelH T P ι F s H → REnv T F ι δ σ → Post T P (Rp T) Q (fun c H' => W (.ref (T.ca c)) none σ H') F ι (dMeth nF tbl f fa δ s) →
        (∀ x s1, f δ s = .ok x s1 → ∃ p ∈ l, ∃ ns vs, obOf s1 x = some (p.1, ns, vs)) → t σ H Q
  | [], _ => by
    refine ⟨_, h0, fun σ H P ι F δ s Q R E post hsel => ?_⟩
    refine d1 σ H P ι F δ s _ R E ?_
    unfold dMeth at post
    cases e : f δ s with
    | exc k s1 => rw [e] at post; exact post
    | stuck => rw [e] at post; exact post
    | ok x s1 =>
      obtain ⟨p, hp, _⟩ := hsel x s1 e
      cases hp
  | p :: l, h => by
    obtain ⟨t, ht, hd⟩ := meth_list d1 d2 hmf h0 l fun q hq => h q (List.mem_cons_of_mem _ hq)
    obtain ⟨hp1, hp2⟩ := h p List.mem_cons_self
    refine ⟨_, PE.orE hp2 ht, fun σ H P ι F δ s Q R E post hsel => ?_⟩
    by_cases hq : ∀ x s1, f δ s = .ok x s1 → ∃ ns vs, obOf s1 x = some (p.1, ns, vs)
    · exact .inl (den_meth1 d1 d2 hmf hp1 R E post hq)
    · refine .inr (hd σ H P ι F δ s Q R E post fun x s1 e => ?_)
      obtain ⟨q, hq1, hq2⟩ := hsel x s1 e
      rcases List.mem_cons.mp hq1 with rfl | hq1
      · refine absurd (fun x' s1' e' => ?_) hq
        rw [e] at e'
        cases e'
        exact hq2
      · exact ⟨q, hq1, hq2⟩
theorem lookup_mem' {α : Type} {c : Nat} {φ : α} : ∀ {l : List (Nat × α)}, l.lookup c = some φ → (c, φ) ∈ l
  | [], h => by cases h
  | (d, ψ) :: l, h => by
    rw [List.lookup_cons] at h
    cases q : (c == d) with
    | true =>
      rw [q] at h
      cases h
      rw [beq_iff_eq.mp q]
      exact List.mem_cons_self
    | false =>
      rw [q] at h
      exact List.mem_cons_of_mem _ (lookup_mem' h)
theorem sel_of {P : Hp} {W : WX} {σ : L2.St} {f : DE} {fa : DA} {tbl : List (Nat × (List D → Sto → Res D))} {δ : Env} {s : Sto} {Q : VK} {F : Hp} {ι : List Addr} (post : Post T P (Rp T) Q (fun c H' => W (.ref (T.ca c)) none σ H') F ι (dMeth nF tbl f fa δ s)) :
    ∀ x s1, f δ s = .ok x s1 → ∃ p ∈ tbl, ∃ ns vs, obOf s1 x = some (p.1, ns, vs) := fun x s1 e => by
  unfold dMeth at post
  rw [e] at post
  have post1 : Post T P (Rp T) Q (fun c H' => W (.ref (T.ca c)) none σ H') F ι (match obOf s1 x with
      | some (c, ns, _) => if okN nF ns = true then match tbl.lookup c with
        | some φ => (fa δ s1).bind fun ds s2 => φ (x :: ds) s2
        | none => .stuck
        else .stuck
      | none => .stuck) := post
  cases q : obOf s1 x with
  | none => rw [q] at post1; exact post1.elim
  | some z =>
    obtain ⟨c, ns, vs⟩ := z
    rw [q] at post1
    dsimp only at post1
    split at post1
    · cases q2 : tbl.lookup c with
      | none => rw [q2] at post1; exact post1.elim
      | some φ => exact ⟨(c, φ), lookup_mem' q2, ns, vs, rfl⟩
    · exact post1.elim
/-- each row of the table is the first of its class, and there is a def for it -/
def AllM (T : Tb) (X : Cx) (m : Str) (j n : Nat) (tbl : List (Nat × (List D → Sto → Res D))) : List (Nat × (List D → Sto → Res D)) → Prop
  | [] => True
  | p :: l => (Mc T X.prog X.w X.mg X.base p.1 m j n p.2 ∧ tbl.lookup p.1 = some p.2) ∧ AllM T X m j n tbl l
theorem AllM.mem {n : Nat} {tbl : List (Nat × (List D → Sto → Res D))} : ∀ {l : List (Nat × (List D → Sto → Res D))}, AllM T X m j n tbl l → ∀ p ∈ l, Mc T X.prog X.w X.mg X.base p.1 m j n p.2 ∧ tbl.lookup p.1 = some p.2
  | [], _, p, hp => by cases hp
  | q :: l, h, p, hp => by
    rcases List.mem_cons.mp hp with rfl | hp
    · exact h.1
    · exact AllM.mem h.2 p hp
theorem d_meth {o e : Expr} {es : List Expr} {apos pos : Pos} {f : DE} {fa : DA} {pl : Sem Bool} {tbl : List (Nat × (List D → Sto → Res D))} (hall : AllM T X m j ((e :: es).length + 1) tbl tbl) (hmf : ∀ i, i < nF → T.fm i ≠ m) (ho : PDe T X o f) (ha : PDa T X (e :: es) fa) (hr : Room j X.A) (hK : X.K = T.K := by rfl)
    (hst : starEach (e :: es) X.env = (false, eval e X.env) :: starEach es X.env := by rfl) (hpl : (backTo pos (starEach es X.env)).any (·.1) = false := by rfl)
    (ht : eval (.Call (.Attribute o m apos) (e :: es) [] pos) X.env = (do
      let ov ← eval o X.env
      standAt apos.atName
      let (f, first) ← holding [ov] (getMethod ov m pl)
      callWith pos f first (backTo pos (starEach (e :: es) X.env)) (backToKw pos (keywordEach [] X.env))) := by rfl) : PDe T X (.Call (.Attribute o m apos) (e :: es) [] pos) (dMeth nF tbl f fa) := fun pn xe W tk => by
  obtain ⟨t1, p1, d1⟩ := ho pn xe W tk
  obtain ⟨t2, p2, d2⟩ := ha pn xe W tk
  have h0 : PE (X.tr pn xe) (.Call (.Attribute o m apos) (e :: es) [] pos) (fun σ H _ => t1 σ H fun _ _ => False) :=
    ⟨fun pins s σ H Q I h => PySem.W.methodCall_KW (pl := pl) (thn (p1.run pins s σ H _ I h) fun u s1 ⟨x, H1, I1, rx, q⟩ => q.elim) ht⟩
  obtain ⟨t, hp, hd⟩ := meth_list (nF := nF) (X := X) (tbl := tbl) d1 d2 hmf h0 tbl fun q hq => by
    obtain ⟨hm, hl⟩ := hall.mem q hq
    obtain ⟨g, fd, ps, h1, h2, h3, h4⟩ := hm.ex
    rw [← hK] at h1 h2 h3 h4
    exact ⟨hl, pe_methS (X := X.tr pn xe) (pl := pl) p1 h1 h2 h4 hr h3 (fun σ => passAt tk σ) p2 hst hpl ht⟩
  exact ⟨t, hp, fun σ H P ι F δ s Q R E post => hd σ H P ι F δ s Q R E post (sel_of post)⟩
theorem d_meth0 {o : Expr} {apos pos : Pos} {f : DE} {pl : Sem Bool} {tbl : List (Nat × (List D → Sto → Res D))} (hall : AllM T X m j 1 tbl tbl) (hmf : ∀ i, i < nF → T.fm i ≠ m) (ho : PDe T X o f) (hr : Room j X.A) (hK : X.K = T.K := by rfl)
    (ht : eval (.Call (.Attribute o m apos) [] [] pos) X.env = (do
      let ov ← eval o X.env
      standAt apos.atName
      let (f, first) ← holding [ov] (getMethod ov m pl)
      callWith pos f first (backTo pos (starEach [] X.env)) (backToKw pos (keywordEach [] X.env))) := by rfl) : PDe T X (.Call (.Attribute o m apos) [] [] pos) (dMeth nF tbl f aNil) := fun pn xe W tk => by
  obtain ⟨t1, p1, d1⟩ := ho pn xe W tk
  have d2 : DenG T (RpsN T 0) W tNil aNil := fun _ _ _ _ _ _ _ _ R _ post => post.here R ⟨.nil, rfl⟩
  have h0 : PE (X.tr pn xe) (.Call (.Attribute o m apos) [] [] pos) (fun σ H _ => t1 σ H fun _ _ => False) :=
    ⟨fun pins s σ H Q I h => PySem.W.methodCall_KW (pl := pl) (thn (p1.run pins s σ H _ I h) fun u s1 ⟨x, H1, I1, rx, q⟩ => q.elim) ht⟩
  obtain ⟨t, hp, hd⟩ := meth_list (nF := nF) (X := X) (tbl := tbl) d1 d2 hmf h0 tbl fun q hq => by
    obtain ⟨hm, hl⟩ := hall.mem q hq
    obtain ⟨g, fd, ps, h1, h2, h3, h4⟩ := hm.ex
    rw [← hK] at h1 h2 h3 h4
    exact ⟨hl, pe_methS0 (X := X.tr pn xe) (pl := pl) p1 h1 h2 h4 hr h3 (fun σ => passAt tk σ) ht⟩
  exact ⟨t, hp, fun σ H P ι F δ s Q R E post => hd σ H P ι F δ s Q R E post (sel_of post)⟩
end
/-! ## C(..) -/
structure Mkc (T : Tb) (P : Program) (w : World) (mg : Str → Option Value) (base : Heap) (c : Nat) (x : Str) (k n : Nat) (φ : List D → Sto → Res D) : Prop where
  ex : ∃ (f : Addr) (fd : FuncData) (ps : List Str), Mk T.K (T.ca c) f ∧ mg x = some (.ref (T.ca c)) ∧ Binds T.K fd ps [] ∧ FnOk P w T.K mg base (L2.CX P w) k f fd ps (spD T n φ)
/-- the new object is a cell -/
def mkO (c : Nat) (φ : List D → Sto → Res D) (ds : List D) (s : Sto) : Res D := match φ (.loc s.length :: ds) (s ++ [.obj c [] []]) with
  | .ok .non s2 => .ok (.loc s.length) s2
  | .exc k s2 => .exc k s2
  | _ => .stuck
/-- .. and stays as it is behind its __init__ -/
def frzO (n : Nat) : Res D → Res D
  | .ok (.loc m) s2 => match s2[n]? with
    | some (.obj c ns vs) => if (decide (m = n) && (decide (s2.length = n + 1) && (belows n vs && (s2.take n).all (Cell.below n)))) = true then .ok (.obj c ns vs) (s2.take n) else .stuck
    | _ => .stuck
  | .exc k s2 => cutX n k s2
  | _ => .stuck
def mkOF (c : Nat) (φ : List D → Sto → Res D) (ds : List D) (s : Sto) : Res D := frzO s.length (mkO c φ ds s)
section
variable {T : Tb} {X : Cx} {j k : Nat}
theorem post_mkO {n c : Nat} {φ : List D → Sto → Res D} {ds : List D} {vs : List V} {H P : Hp} {ι : List Addr} {F : Hp} {s : Sto} {Q : VK} {E : Nat → Hp → Prop} (R : RelH T P ι F s H) (r : Rps T F ι ds vs) (hn : vs.length = n) (post : Post T P (Rp T) Q E F ι (mkO c φ ds s))
    {E' : XK} (hE : ∀ c H', E c H' → E' (.ref (T.ca c)) none H') : ∀ x dx, H x = none → H dx = none → dx ≠ x → spD T (n + 1) φ (.ref x :: vs) (upd (upd H dx (.own x)) x (.ins (T.ca c) dx [])) (fun v H2 => v = .non ∧ Q (.ref x) H2) E' := fun x dx hx hdx ne => by
  have R1 := R.new hdx (.own x)
  have g1 : Grow F ι (upd F dx (.own x)) ι := grow_new (R.freeF hdx) _
  have hx1 : upd H dx (.own x) x = none := by rw [upd_ne (Ne.symm ne)]; exact hx
  have R2 := R1.alloc (c := .obj c [] []) (o := .ins (T.ca c) dx []) hx1 ⟨R1.freeF hx1, dx, [], upd_same, rfl, .nil⟩
  have g2 := g1.trans (grow_app (upd F dx (.own x)) ι x)
  refine ⟨by rw [List.length_cons, hn], P, _, _, _, .loc s.length :: ds, R2, .cons ?_ (r.mono g2), ?_⟩
  · unfold Rp
    exact ⟨x, by rw [← R.len]; simp, rfl⟩
  · unfold mkO at post
    cases e : φ (.loc s.length :: ds) (s ++ [.obj c [] []]) with
    | stuck => rw [e] at post; exact post.elim
    | exc k s2 =>
      rw [e] at post
      exact fun H' ι' F' g' R' => hE _ _ (post H' ι' F' (g2.trans g') R')
    | ok d s2 =>
      rw [e] at post
      cases d with
      | non =>
        intro v H' ι' F' g' R' rv
        unfold Rp at rv
        refine ⟨rv, post (.ref x) H' ι' F' (g2.trans g') R' ?_⟩
        unfold Rp
        exact ⟨x, g'.at (by rw [← R.len]; simp), rfl⟩
      | _ => exact post.elim
theorem post_frz {P : Hp} {ι : List Addr} {F : Hp} {s : Sto} {H : Hp} {Q : VK} {E : Nat → Hp → Prop} {r : Res D} (R : RelH T P ι F s H) (post : Post T P (Rp T) Q E F ι (frzO s.length r)) : Post T P (Rp T) Q E F ι r := by
  cases r with
  | stuck => exact post
  | exc k s2 =>
    have post' : Post T P (Rp T) Q E F ι (cutX s.length k s2) := post
    unfold cutX at post'
    split at post'
    · exact post'
    · split at post'
      · rename_i hb
        simp only [Bool.and_eq_true, decide_eq_true_eq] at hb
        exact fun H' ι' F' g R' => post' H' _ F' (takeG g R.len) (R'.cut hb.2)
      · exact post'.elim
  | ok d s2 =>
    cases d with
    | loc m =>
      unfold frzO at post
      dsimp only at post
      split at post
      · rename_i c ns vs hs
        split at post
        · rename_i hb
          simp only [Bool.and_eq_true, decide_eq_true_eq] at hb
          obtain ⟨rfl, hb1, hb2, hb3⟩ := hb
          intro v H' ι' F' g R' rv
          unfold Rp at rv
          obtain ⟨a, e1, rfl⟩ := rv
          obtain ⟨h1, dx, fs, h2, h3, h4⟩ := R'.cell _ _ _ hs e1
          have R2 := R'.freeze hs rfl e1 h1 h2
          have g2 : Grow F' ι' (upd F' a (.ins (T.ca c) dx fs)) ι' := grow_new h1 _
          have e3 : (s2.set s.length .dead).take s.length = s2.take s.length := by
            rw [List.take_set, List.set_eq_of_length_le (by rw [List.length_take]; omega)]
          have R3 := R2.cut (n := s.length) (by rw [e3]; exact hb3)
          rw [e3] at R3
          refine post (.ref a) H' _ _ (takeG (g.trans g2) R.len) R3 ?_
          unfold Rp
          exact ⟨a, dx, fs, rfl, upd_same, h3, (h4.mono g2).takeI hb2⟩
        · exact post.elim
      · exact post.elim
    | _ => exact post.elim
def dMake (φ : List D → Sto → Res D) (fa : DA) : DE := dCall φ fa
theorem d_make {x : Str} {p pos : Pos} {e : Expr} {es : List Expr} {c n : Nat} {φ : List D → Sto → Res D} {fa : DA} (m : Mkc T X.prog X.w X.mg X.base c x k n φ) (ha : PDa T X (e :: es) fa) (hr : Room j X.A) (hk : k + 1 ≤ j := by decide) (hn : (e :: es).length + 1 = n := by rfl) (hg : Gl X x := by rfl) (hK : X.K = T.K := by rfl)
    (hdb : (x == ("__debug__" : Str)) = false := by decide) (he : starEach (e :: es) X.env = (false, eval e X.env) :: starEach es X.env := by rfl) (hpl : (backTo pos (starEach es X.env)).any (·.1) = false := by rfl) :
    PDe T X (.Call (.Name x p) (e :: es) [] pos) (dCall (mkO c φ) fa) := fun pn xe W tk => by
  obtain ⟨t1, p1, d1⟩ := ha pn xe W tk
  obtain ⟨f, fd, ps, h1, h2, h3, h4⟩ := m.ex
  rw [← hK] at h1 h3 h4
  refine ⟨_, pe_makeS (X := X.tr pn xe) h1 h4 (hr.mono hk) hg h2 h3 (fun σ => passAt tk σ) p1 hdb he hpl, fun σ H P ι F δ s Q R E post => ?_⟩
  show t1 σ H _
  refine den_then d1 R E post fun ds vs H1 ι1 F1 s1 g R1 E1 r1 post1 => ?_
  subst hn
  exact post_mkO R1 r1.1 r1.2 post1 fun _ _ h => h
theorem d_makeF {x : Str} {p pos : Pos} {e : Expr} {es : List Expr} {c n : Nat} {φ : List D → Sto → Res D} {fa : DA} (m : Mkc T X.prog X.w X.mg X.base c x k n φ) (ha : PDa T X (e :: es) fa) (hr : Room j X.A) (hk : k + 1 ≤ j := by decide) (hn : (e :: es).length + 1 = n := by rfl) (hg : Gl X x := by rfl) (hK : X.K = T.K := by rfl)
    (hdb : (x == ("__debug__" : Str)) = false := by decide) (he : starEach (e :: es) X.env = (false, eval e X.env) :: starEach es X.env := by rfl) (hpl : (backTo pos (starEach es X.env)).any (·.1) = false := by rfl) :
    PDe T X (.Call (.Name x p) (e :: es) [] pos) (dCall (mkOF c φ) fa) := fun pn xe W tk => by
  obtain ⟨t1, p1, d1⟩ := ha pn xe W tk
  obtain ⟨f, fd, ps, h1, h2, h3, h4⟩ := m.ex
  rw [← hK] at h1 h3 h4
  refine ⟨_, pe_makeS (X := X.tr pn xe) h1 h4 (hr.mono hk) hg h2 h3 (fun σ => passAt tk σ) p1 hdb he hpl, fun σ H P ι F δ s Q R E post => ?_⟩
  show t1 σ H _
  refine den_then d1 R E post fun ds vs H1 ι1 F1 s1 g R1 E1 r1 post1 => ?_
  subst hn
  exact post_mkO R1 r1.1 r1.2 (post_frz R1 post1) fun _ _ h => h
theorem d_make0 {x : Str} {p pos : Pos} {c : Nat} {φ : List D → Sto → Res D} (m : Mkc T X.prog X.w X.mg X.base c x k 1 φ) (hr : Room j X.A) (hk : k + 1 ≤ j := by decide) (hg : Gl X x := by rfl) (hK : X.K = T.K := by rfl) (hdb : (x == ("__debug__" : Str)) = false := by decide) :
    PDe T X (.Call (.Name x p) [] [] pos) (dCall (mkO c φ) aNil) := fun pn xe W tk => by
  obtain ⟨f, fd, ps, h1, h2, h3, h4⟩ := m.ex
  rw [← hK] at h1 h3 h4
  refine ⟨_, pe_makeS0 (X := X.tr pn xe) h1 h4 (hr.mono hk) hg h2 h3 (fun σ => passAt tk σ) hdb, fun σ H P ι F δ s Q R E post => ?_⟩
  have post1 : Post T P (Rp T) Q (fun c H' => W (.ref (T.ca c)) none σ H') F ι (mkO c φ [] s) := post
  exact post_mkO (n := 0) R .nil rfl post1 fun _ _ h => h
end
/-! ### a class without an __init__ of its own -/
structure Mk0 (K : PySem.W.Frag) (C : Addr) : Prop where
  makes : PySem.W.makesIn K C = true
  init : PySem.W.findIn K (.ref C) "__init__" = some (some (.builtin "object.__init__"))
  top : PySem.W.mroIn K C (.type "object") = some true
  kp : PySem.W.keepIn K (.ref C) = true
theorem pe_mk0 {X : Cx} {C : Addr} {x : Str} {p pos : Pos} (M : Mk0 X.K C) (hg : Gl X x) (hm : X.mg x = some (.ref C)) (hdb : (x == ("__debug__" : Str)) = false := by decide) :
    PE X (.Call (.Name x p) [] [] pos) (fun _ H Q => ∀ x dx, H x = none → H dx = none → dx ≠ x → Q (.ref x) (upd (upd H dx (.own x)) x (.ins C dx []))) := by
  refine ⟨fun pins s σ H Q I h => ?_⟩
  refine wpAny_Call_Name_kw (ld_glob I hg hm ?_ hdb)
  refine PySem.W.callWith_K0 I.kIn M.kp ?_
  have hq := h (s.heap.objs.size + 1) s.heap.objs.size (I.hok.fresh (Nat.le_succ _)) (I.hok.fresh (Nat.le_refl _)) (Nat.ne_of_lt (Nat.lt_succ_self _))
  have I2 := Inv.made (C := C) I
  refine wpAny_call (make_map0 I.kIn M.makes M.init (fun self => PySem.W.Looks.of_pure (PySem.W.oi_bind _)) ?_)
  have ho : ((s.heap.push PySem.W.emptyDict).push (PySem.W.instObj C s.heap.objs.size)).get? (s.heap.objs.size + 1) = some (PySem.W.instObj C s.heap.objs.size) := by
    have := Heap.get?_push_size (s.heap.push PySem.W.emptyDict) (o := PySem.W.instObj C s.heap.objs.size) rfl
    rw [Heap.size_push] at this
    exact this
  have t1 : PySem.W.Looks (model X.prog X.w) ((s.heap.push PySem.W.emptyDict).push (PySem.W.instObj C s.heap.objs.size)) (typeOf (.ref (s.heap.objs.size + 1))) (.ref C) := NwA.type_at ho rfl
  have t2 : PySem.W.Looks (model X.prog X.w) ((s.heap.push PySem.W.emptyDict).push (PySem.W.instObj C s.heap.objs.size)) (isInstance (.ref (s.heap.objs.size + 1)) (.type "object")) true := t1.andThen (PySem.W.looks_mroIn I2.kIn M.top)
  refine codeAny_call_builtin PySem.W.oi_plain PySem.W.entry_oi (@PySem.W.check_slot (model X.prog X.w) _ _ _ "object.__init__" "object" "__init__" (.ref (s.heap.objs.size + 1)) [] [] _ PySem.W.oi_kind PySem.W.oi_split t2 (NwA.oi_args_any _ [] []) ?_)
  rw [PySem.W.oi_run]
  exact wpAny_pure ⟨rfl, .ref (s.heap.objs.size + 1), _, I2, rfl, hq⟩
theorem d_mk0 {T : Tb} {X : Cx} {x : Str} {p pos : Pos} (c : Nat) (M : Mk0 T.K (T.ca c)) (hm : X.mg x = some (.ref (T.ca c))) (hg : Gl X x := by rfl) (hK : X.K = T.K := by rfl) (hdb : (x == ("__debug__" : Str)) = false := by decide) :
    PDe T X (.Call (.Name x p) [] [] pos) (dC (.obj c [] [])) := fun pn xe W tk => by
  rw [← hK] at M
  refine ⟨_, pe_mk0 (X := X.tr pn xe) M hg hm hdb, fun σ H P ι F δ s Q R E post x dx hx hdx ne => ?_⟩
  have R1 := R.new hdx (.own x)
  have g1 : Grow F ι (upd F dx (.own x)) ι := grow_new (R.freeF hdx) _
  have hx1 : upd H dx (.own x) x = none := by rw [upd_ne (Ne.symm ne)]; exact hx
  refine (Post.mono g1 post).new R1 hx1 fun g => ?_
  unfold Rp
  exact ⟨x, dx, [], rfl, upd_same, rfl, .nil⟩
end Mp
/-! # MpK -/
namespace Mp
open PySem PySem.Spec PyProof.Rows L2
section
variable {P : Program} {w : World} {A : Around} {E : Value → Shared → Prop} {s : Shared}
theorem call_set_lstI {l : Addr} {items : Array Value} (ns : List Int) {Q : Value → Shared → Prop} (hh : A.handled = none) (hl : s.heap.IsList l items) (hit : IntsAre items.toList ns) (hb : ns.length + 1 < scanBound)
    (h : ∀ (h' : Heap) (tk c : Nat), SetR w h' s.heap.objs.size (fun j => decide (j ∈ ns)) c → c ≤ ns.length → (∀ b o, s.heap.get? b = some o → h'.get? b = some o) → Q (.ref s.heap.objs.size) { s with heap := h', toks := tk }) :
    wpAny (model P w) A (call (.type "set") [.ref l]) Q E s := by
  have hisz : items.size = ns.length := by
    have q := IntsAre.length hit
    rw [Array.length_toList] at q
    exact q
  obtain ⟨c, tl, hmro⟩ := F.called_set.mro
  have hmade := F.called_set.made
  have hsub := F.called_set.sub
  refine wpAny_call (codeAny_of_tree ?_)
  show wpAny _ _ (callAny (.type "set") _) _ _ _
  refine wpAny_pure ⟨Code.quiet_builtin _ (by decide +kernel), codeAny_builtin F.entry_type_call ?_⟩
  rw [Around.under_plain (weight_type_call_type "set" [.ref l] []) rfl]
  have h1 := F.called_set.notType
  have h2 := F.called_set.canCreate
  have hct := F.typeCall_set_1 (.ref l)
  repeat (any_goals (first | assumption | wp_step))

  refine codeAny_mono (code_set_led1 (.ref l) (E := E) (Q₁ := fun obj s₁ => obj = .ref s.heap.objs.size ∧ s₁ = { s with heap := s.heap.push { cls := .type "set", dict := none, data := .set #[] 0 (.fresh 0 0 (!w.params.followText "set-order")) } }) ⟨rfl, rfl⟩) fun r s₁ hr => ?_
  cases r with
  | error e => exact hr
  | ok fl =>
    cases fl with
    | ret obj =>
      obtain ⟨rfl, rfl⟩ := hr
      have hS : (s.heap.push { cls := .type "set", dict := none, data := .set #[] 0 (.fresh 0 0 (!w.params.followText "set-order")) }).get? s.heap.objs.size = some { cls := .type "set", dict := none, data := .set #[] 0 (.fresh 0 0 (!w.params.followText "set-order")) } := Heap.get?_push_size _ rfl
      have hT : Shared.TypeIs { s with heap := s.heap.push { cls := .type "set", dict := none, data := .set #[] 0 (.fresh 0 0 (!w.params.followText "set-order")) } } (.ref s.heap.objs.size) "set" := ⟨_, hS, rfl⟩
      have hli := F.called_set.init.lookup
      have hbi := F.called_set.init.bind (.ref s.heap.objs.size)
      repeat (any_goals (first | assumption | wp_step))

      refine codeAny_mono (codeAny_call_builtin (R := wants (fun r s₂ => r = .none ∧ ∃ h' tk c, s₂ = { s with heap := h', toks := tk } ∧ SetR w h' s.heap.objs.size (fun j => decide (j ∈ ns)) c ∧ c ≤ ns.length ∧
          (∀ b o, s.heap.get? b = some o → h'.get? b = some o)) E) F.called_set.init.plain F.entry_set_init (check_set_init_1 hT ?_)) fun r₂ s₂ hr₂ => ?_
      · obtain ⟨ol, hol, hcl, nl, hdl⟩ := hl
        obtain ⟨ocls, odict, odata, oslots⟩ := ol
        simp only at hcl hdl
        subst hcl; subst hdl
        have hol' : (s.heap.push { cls := .type "set", dict := none, data := .set #[] 0 (.fresh 0 0 (!w.params.followText "set-order")) }).get? l = some { cls := .type "list", dict := odict, data := .seq items nl, slots := oslots } := Heap.get?_push_of_some _ hol
        have hsls := F.sub_list_set
        have hslf := F.sub_list_frozenset
        have hne : (Value.type "list" == Value.type "dict") = false := by decide
        have hl1 : (s.heap.push { cls := .type "set", dict := none, data := .set #[] 0 (.fresh 0 0 (!w.params.followText "set-order")) }).IsList l items := ⟨_, hol', rfl, nl, rfl⟩
        unfold Builtin.«set.__init__» noKeywords Builtin.Frozenset.updateFrom
        generalize hPI : pyIter = PI
        wp_walk
        subst hPI

        refine wpAny_pyIter_list hl1 ?_
        refine wpAny_bind (wpAny_runValue ?_)
        have hlS : l < s.heap.objs.size := Heap.lt_size hol
        have hh3 : A.in1.in1.in1.handled = none := by simp [hh]
        have hz1 : (s.heap.push { cls := .type "set", dict := none, data := .set #[] 0 (.fresh 0 0 (!w.params.followText "set-order")) }).objs.size = s.heap.objs.size + 1 := Heap.size_push ..
        have hneI : l ≠ (s.heap.push { cls := .type "set", dict := none, data := .set #[] 0 (.fresh 0 0 (!w.params.followText "set-order")) }).objs.size := by
          rw [Heap.size_push]; exact Nat.ne_of_lt (Nat.lt_succ_of_lt hlS)
        have hSf : s.heap.objs.size ∉ [(s.heap.push { cls := .type "set", dict := none, data := .set #[] 0 (.fresh 0 0 (!w.params.followText "set-order")) }).objs.size, l] := by
          rw [Heap.size_push]; simp only [List.mem_cons, List.mem_singleton, List.not_mem_nil, or_false, not_or]
          exact ⟨Nat.ne_of_lt (Nat.lt_succ_self _), Nat.ne_of_gt hlS⟩
        have hval : ∀ (i : Nat) (v : Value), items[i]? = some v → ∃ k t, ns[i]? = some k ∧ v = .int k t := fun i v hv => by
          have hi : i < ns.length := by rw [← hisz]; exact (Array.getElem?_eq_some_iff.mp hv).1
          obtain ⟨t, e⟩ := PyProof.Rows.IntsAre.int_at hit i v (by rw [Array.getElem?_toList]; exact hv)
          refine ⟨ns[i], t, List.getElem?_eq_getElem hi, ?_⟩
          rw [e, List.getD_eq_getElem?_getD, List.getElem?_eq_getElem hi] <;> rfl
        refine set_update_ints ((Walks.list hh3 _ l hneI items).toS) s.heap.objs.size
          hSf ns hisz hb hval (items.size - 0) 0 _ (by omega) (Nat.zero_le _)
          ⟨⟨_, Heap.get?_push_size _ rfl, rfl, rfl⟩, (hl1.push _)⟩ ?hS0 ?hR
        case hS0 =>
          have hget : ((s.heap.push { cls := .type "set", dict := none, data := .set #[] 0 (.fresh 0 0 (!w.params.followText "set-order")) }).push { cls := .type "list_iterator", data := .fields #[.ref l, .int 0 0] }).get? s.heap.objs.size
              = some { cls := .type "set", dict := none, data := .set #[] 0 (.fresh 0 0 (!w.params.followText "set-order")) } := Heap.get?_push_of_some _ hS
          exact ⟨0, Nat.le_refl 0, setR_new_at hget⟩
        case hR =>
          intro s' c' hm hc' hS'
          obtain ⟨h', g2, d', tk', os'⟩ := s'
          have eg : g2 = s.gens := hm.gens
          have ed : d' = s.drawn := hm.drawn
          have eo : os' = s.os := hm.os
          subst eg; subst ed; subst eo
          show wpAny _ _ _ _ _ _
          refine wpAny_pure ?_
          show wpAny _ _ (ret Value.none) _ _ _
          rw [hisz] at hc'
          refine wpAny_pure ⟨rfl, h', tk', c', rfl, hS', hc', fun b o e => ?_⟩
          have hb0 : b < s.heap.objs.size := Heap.lt_size e
          have hb1 : b ≠ s.heap.objs.size := Nat.ne_of_lt hb0
          have hb2 : b ≠ (s.heap.push { cls := .type "set", dict := none, data := .set #[] 0 (.fresh 0 0 (!w.params.followText "set-order")) }).objs.size := by
            rw [Heap.size_push]; exact Nat.ne_of_lt (Nat.lt_succ_of_lt hb0)
          exact hm.heap b o (by simp only [List.mem_cons, List.mem_singleton, List.not_mem_nil, or_false, not_or]; exact ⟨hb1, hb2⟩) (Heap.get?_push_of_some _ (Heap.get?_push_of_some _ e))

      · cases r₂ with
        | error e => exact hr₂
        | ok fl₂ =>
          cases fl₂ with
          | ret r =>
            obtain ⟨rfl, h', tk, c', rfl, hS', hc', hk'⟩ := hr₂
            repeat (any_goals (first | assumption | wp_step))
            exact h _ _ _ hS' hc' hk'
          | _ => exact hr₂.elim
    | _ => exact hr.elim

end

/-! ## sorted(set(e)), e a list of whole numbers -/
def insI (x : Int) : List Int → List Int
  | [] => [x]
  | y :: ys => if x < y then x :: y :: ys else if x = y then y :: ys else y :: insI x ys
def sortI : List Int → List Int
  | [] => []
  | x :: xs => insI x (sortI xs)
theorem mem_insI {x y : Int} : ∀ {ys : List Int}, y ∈ insI x ys ↔ y = x ∨ y ∈ ys
  | [] => by simp [insI]
  | z :: zs => by
    unfold insI
    split
    · simp
    · split
      · rename_i h
        subst h
        simp
      · simp only [List.mem_cons, mem_insI (ys := zs)]
        constructor
        · rintro (h | h | h)
          · exact .inr (.inl h)
          · exact .inl h
          · exact .inr (.inr h)
        · rintro (h | h | h)
          · exact .inr (.inl h)
          · exact .inl h
          · exact .inr (.inr h)
theorem mem_sortI {y : Int} : ∀ {xs : List Int}, y ∈ sortI xs ↔ y ∈ xs
  | [] => by simp [sortI]
  | x :: xs => by
    unfold sortI
    rw [mem_insI, mem_sortI (xs := xs)]
    simp
theorem insI_lt {x : Int} : ∀ {ys : List Int}, ys.Pairwise (· < ·) → (insI x ys).Pairwise (· < ·)
  | [], _ => by simp [insI]
  | y :: ys, h => by
    obtain ⟨h1, h2⟩ := List.pairwise_cons.mp h
    unfold insI
    split
    · rename_i hx
      exact List.pairwise_cons.mpr ⟨fun z hz => by
        rcases List.mem_cons.mp hz with rfl | hz
        · exact hx
        · have := h1 z hz
          omega, h⟩
    · split
      · exact h
      · rename_i hx hne
        refine List.pairwise_cons.mpr ⟨fun z hz => ?_, insI_lt h2⟩
        rcases mem_insI.mp hz with rfl | hz
        · omega
        · exact h1 z hz
theorem sortI_lt : ∀ {xs : List Int}, (sortI xs).Pairwise (· < ·)
  | [] => by simp [sortI]
  | x :: xs => by
    unfold sortI
    exact insI_lt sortI_lt
theorem lt_uniq : ∀ {xs ys : List Int}, xs.Pairwise (· < ·) → ys.Pairwise (· < ·) → (∀ z, z ∈ xs ↔ z ∈ ys) → xs = ys
  | [], [], _, _, _ => rfl
  | [], y :: ys, _, _, h => by have := (h y).mpr List.mem_cons_self; cases this
  | x :: xs, [], _, _, h => by have := (h x).mp List.mem_cons_self; cases this
  | x :: xs, y :: ys, hx, hy, h => by
    obtain ⟨h1, h2⟩ := List.pairwise_cons.mp hx
    obtain ⟨h3, h4⟩ := List.pairwise_cons.mp hy
    have e : x = y := by
      rcases List.mem_cons.mp ((h x).mp List.mem_cons_self) with e | e
      · exact e
      · rcases List.mem_cons.mp ((h y).mpr List.mem_cons_self) with e2 | e2
        · exact e2.symm
        · have a := h3 x e
          have b := h1 y e2
          omega
    subst e
    congr 1
    refine lt_uniq h2 h4 fun z => ⟨fun hz => ?_, fun hz => ?_⟩
    · rcases List.mem_cons.mp ((h z).mp (List.mem_cons_of_mem _ hz)) with e | e
      · have := h1 z hz
        omega
      · exact e
    · rcases List.mem_cons.mp ((h z).mpr (List.mem_cons_of_mem _ hz)) with e | e
      · have := h3 z hz
        omega
      · exact e
def intsOf : List D → Option (List Int)
  | [] => some []
  | .int x :: r => (intsOf r).map (x :: ·)
  | _ => none
theorem ints_ok {T : Tb} {F : Hp} {ι : List Addr} : ∀ {ds : List D} {vs : List V} {ns : List Int}, Rps T F ι ds vs → intsOf ds = some ns → vs = ns.map V.int
  | [], vs, ns, r, e => by unfold Rps at r; subst r; cases e; rfl
  | d :: ds, vs, ns, r, e => by
    unfold Rps at r
    obtain ⟨v, us, rfl, h1, h2⟩ := r
    cases d with
    | int x =>
      have e' : (intsOf ds).map (x :: ·) = some ns := e
      cases q : intsOf ds with
      | none => rw [q] at e'; cases e'
      | some cs =>
        rw [q] at e'
        cases e'
        unfold Rp at h1
        rw [h1, ints_ok h2 q]
        rfl
    | _ => cases e
def tSortedSet (K : PySem.W.Frag) (ta : TE) : TE := fun σ H Q => ta σ H fun x H1 => ∃ (l : Addr) (ns : List Int), x = V.ref l ∧ SqL K H1 l (ns.map V.int) ∧ ns.length < 63 ∧ ∀ p, H1 p = none → Q (.ref p) (upd H1 p (.lst ((sortI ns).map V.int)))
theorem pe_sortedSetI {X : Cx} {a : Expr} {ta : TE} {p p2 q pos : Pos} (hc : X.calm = true) (hg : Gl X "sorted") (hm : X.mg "sorted" = none) (hg2 : Gl X "set") (hm2 : X.mg "set" = none) (ha : PE X a ta)
    (na : starEach [a] X.env = (false, eval a X.env) :: starEach [] X.env := by rfl) : PE X (.Call (.Name "sorted" p) [.Call (.Name "set" p2) [a] [] q] [] pos) (tSortedSet X.K ta) := by
  refine ⟨fun pins s σ H Q I h => ?_⟩
  refine Call_ (ld_blt I hg hm PyProof.Rows.boot_sorted ?_)
  refine PyProof.Rows.callWith_builtin1 (PyProof.Rows.args_cons ?_ rfl) rfl rfl
  refine Call_ (ld_blt I hg2 hm2 PyProof.Rows.boot_set ?_)
  refine PyProof.Rows.callWith_type1 (PyProof.Rows.args_cons (thn (ha.run pins s σ H _ I h) fun v s1 ⟨x, H1, I1, r1, q1⟩ => PyProof.Rows.args_nil ?_) na) na rfl
  obtain ⟨l, ns, rfl, hq, h1, q1⟩ := q1
  cases r1
  obtain ⟨its, r, pl, hz⟩ := I1.list hq
  refine call_set_lstI ns (I1.ok.hd hc) pl.isList (by simpa using r.ints) (by unfold scanBound; omega) fun h' tk c hS hcl hk => ?_
  refine PyProof.Rows.args_nil ?_
  have I2 : Inv X pins σ H1 { s1 with heap := h', toks := tk } := I1.kept fun b o e => hk b o e
  refine sorted_set (s := { s1 with heap := h', toks := tk }) hS (I2.ok.hd hc) (by omega) fun s' p out c2 ns2 k g o hp hg hi hs hm hl => ?_
  have e : ns2 = sortI ns := lt_uniq hs sortI_lt fun z => by
    rw [hm z, mem_sortI]
    exact decide_eq_true_iff
  have hlen : (ns2.map V.int).length ≤ sizeLine := by rw [List.length_map, hl, sizeLine_eq]; omega
  have hn : H1 p = none := I2.hok.fresh hp
  have J : Inv X pins σ (upd H1 p (.lst (ns2.map V.int))) { ({ s1 with heap := h', toks := tk } : Shared) with heap := s'.heap, gens := s'.gens, drawn := s'.drawn, toks := s'.toks } :=
    I2.call (ch := []) (Un.laid k hp hn) (I2.hok.laid k hp ⟨hlen, out.toList, c2, vals_of_ints hi, hg⟩) (by rw [g]; exact I2.bare) (fun _ z => nomatch z)
  have e2 : s' = { s1 with heap := s'.heap, gens := s'.gens, drawn := s'.drawn, toks := s'.toks } := by
    cases s'
    cases s1
    cases o
    rfl
  rw [e2]
  refine ⟨.ref p, _, J, rfl, ?_⟩
  rw [e]
  exact q1 p hn
def dSortedSet (f : DE) : DE := fun δ s => (f δ s).bind fun x s1 => match lqOf s1 x with
  | some xs => match intsOf xs with
    | some ns => if ns.length < 63 then .ok (.lst ((sortI ns).map D.int)) s1 else .stuck
    | none => .stuck
  | none => .stuck
section
variable {T : Tb} {X : Cx}
theorem d_sortedSet {a : Expr} {f : DE} {p p2 q pos : Pos} (hm : X.mg "sorted" = none) (hm2 : X.mg "set" = none) (ha : PDe T X a f) (hg : Gl X "sorted" := by rfl) (hg2 : Gl X "set" := by rfl) (hc : X.calm = true := by rfl) (hK : X.K = T.K := by rfl)
    (na : starEach [a] X.env = (false, eval a X.env) :: starEach [] X.env := by rfl) : PDe T X (.Call (.Name "sorted" p) [.Call (.Name "set" p2) [a] [] q] [] pos) (dSortedSet f) := fun pn xe W tk => by
  obtain ⟨t1, p1, d1⟩ := ha pn xe W tk
  have hK' : (X.tr pn xe).K = T.K := hK
  refine ⟨_, pe_sortedSetI (X := X.tr pn xe) hc hg hm hg2 hm2 p1 na, fun σ H P ι F δ s Q R E post => ?_⟩
  rw [hK']
  show t1 σ H _
  refine den_then d1 R E post fun x y H1 ι1 F1 s1 g1 R1 E1 r1 post1 => ?_
  split at post1
  · rename_i xs hx
    split at post1
    · rename_i ns hn
      split at post1
      · rename_i hl
        obtain ⟨l, vs, rfl, h2, h3⟩ := lq_of R1 r1 hx
        rw [ints_ok h3 hn] at h2
        refine ⟨l, ns, rfl, h2, hl, fun p hp => ?_⟩
        refine post1.new R1 hp fun g => ?_
        unfold Rp
        exact ⟨p, _, rfl, upd_same, rps_ints _⟩
      · exact post1.elim
    · exact post1.elim
  · exact post1.elim
end
/-! ## list(x), tuple(x), sum(xs), max(xs), min(xs) -/
def bList : DB
  | [x], s => match (lqOf s x).or (tpOf x) with
    | some xs => .ok (.lst xs) s
    | none => .stuck
  | _, _ => .stuck
/-- .. as a cell -/
def bListC : DB
  | [x], s => match (lqOf s x).or (tpOf x) with
    | some xs => .ok (.loc s.length) (s ++ [.lst xs])
    | none => .stuck
  | _, _ => .stuck
def bTuple : DB
  | [.tup xs], s => .ok (.tup xs) s
  | [x], s => match lqOf s x with
    | some xs => .ok (.tup xs) s
    | none => .stuck
  | _, _ => .stuck
def bSum : DB
  | [x], s => match (lqOf s x).bind intsOf with
    | some ns => .ok (.int ns.sum) s
    | none => .stuck
  | _, _ => .stuck
def maxI : List Int → Int
  | [] => 0
  | n :: ns => ns.foldl max n
def minI : List Int → Int
  | [] => 0
  | n :: ns => ns.foldl min n
def bMaxL : DB
  | [x], s => match (lqOf s x).bind intsOf with
    | some ns => if ns ≠ [] then .ok (.int (maxI ns)) s else .stuck
    | none => .stuck
  | _, _ => .stuck
def bMinL : DB
  | [x], s => match (lqOf s x).bind intsOf with
    | some ns => if ns ≠ [] then .ok (.int (minI ns)) s else .stuck
    | none => .stuck
  | _, _ => .stuck
theorem foldl_max {m : Int} : ∀ {ns : List Int} {n : Int}, (m = n ∨ m ∈ ns) → n ≤ m → (∀ y ∈ ns, y ≤ m) → ns.foldl max n = m
  | [], n, h, _, _ => by
    rcases h with h | h
    · exact h.symm
    · cases h
  | k :: ns, n, h, h1, h2 => by
    rw [List.foldl_cons]
    have hk := h2 k List.mem_cons_self
    refine foldl_max ?_ (by omega) fun y hy => h2 y (List.mem_cons_of_mem _ hy)
    rcases h with h | h
    · left; omega
    · rcases List.mem_cons.mp h with h | h
      · left; omega
      · exact .inr h
theorem foldl_min {m : Int} : ∀ {ns : List Int} {n : Int}, (m = n ∨ m ∈ ns) → m ≤ n → (∀ y ∈ ns, m ≤ y) → ns.foldl min n = m
  | [], n, h, _, _ => by
    rcases h with h | h
    · exact h.symm
    · cases h
  | k :: ns, n, h, h1, h2 => by
    rw [List.foldl_cons]
    have hk := h2 k List.mem_cons_self
    refine foldl_min ?_ (by omega) fun y hy => h2 y (List.mem_cons_of_mem _ hy)
    rcases h with h | h
    · left; omega
    · rcases List.mem_cons.mp h with h | h
      · left; omega
      · exact .inr h
section
variable {T : Tb}
abbrev rListOf (K : PySem.W.Frag) : List V → Hp → VK → Prop := fun xs H Q => ∃ p ys, xs = [.ref p] ∧ (SqL K H p ys ∨ SqT K H p ys) ∧ ∀ l, H l = none → Q (.ref l) (upd H l (.lst ys))
theorem db_list : DenB T (rListOf T.K) bList := by
  intro ds vs H P ι F s Q E R r post
  unfold bList at post
  split at post
  · obtain ⟨v, rfl, h1⟩ := rps1 r
    split at post
    · rename_i xs h
      obtain ⟨a, us, rfl, h2, h3⟩ := lqtp_of R h1 h
      refine ⟨a, us, rfl, h2, fun l hl => ?_⟩
      refine post.new R hl fun g => ?_
      unfold Rp
      exact ⟨l, _, rfl, upd_same, h3.mono g⟩
    · exact post.elim
  · exact post.elim
theorem db_listC : DenB T (rListOf T.K) bListC := by
  intro ds vs H P ι F s Q E R r post
  unfold bListC at post
  split at post
  · obtain ⟨v, rfl, h1⟩ := rps1 r
    split at post
    · rename_i xs h
      obtain ⟨a, us, rfl, h2, h3⟩ := lqtp_of R h1 h
      refine ⟨a, us, rfl, h2, fun l hl => post_loc post R hl ?_⟩
      exact ⟨R.freeF hl, _, upd_same, h3.mono (grow_app _ _ _)⟩
    · exact post.elim
  · exact post.elim
abbrev rTupleOf (K : PySem.W.Frag) : List V → Hp → VK → Prop := fun xs H Q => ∃ p ys, xs = [.ref p] ∧ ((SqL K H p ys ∧ ∀ l, H l = none → Q (.ref l) (upd H l (.tup ys))) ∨ (SqT K H p ys ∧ Q (.ref p) H))
theorem db_tuple : DenB T (rTupleOf T.K) bTuple := by
  intro ds vs H P ι F s Q E R r post
  unfold bTuple at post
  split at post
  · obtain ⟨v, rfl, h1⟩ := rps1 r
    obtain ⟨a, us, rfl, h2, _, h3⟩ := tp_of R h1
    exact ⟨a, us, rfl, .inr ⟨SqT.of h2, post.here R h1⟩⟩
  · obtain ⟨v, rfl, h1⟩ := rps1 r
    split at post
    · rename_i xs h
      obtain ⟨a, us, rfl, h2, h3⟩ := lq_of R h1 h
      refine ⟨a, us, rfl, .inl ⟨h2, fun l hl => ?_⟩⟩
      refine post.new R hl fun g => ?_
      unfold Rp
      exact ⟨l, _, rfl, upd_same, h3.mono g⟩
    · exact post.elim
  · exact post.elim
theorem ints_at {P : Hp} {ι : List Addr} {F : Hp} {s : Sto} {H : Hp} {x : D} {v : V} {ns : List Int} (R : RelH T P ι F s H) (r : Rp T F ι x v) (h : (lqOf s x).bind intsOf = some ns) : ∃ a, v = .ref a ∧ SqL T.K H a (ns.map V.int) := by
  cases q : lqOf s x with
  | none => rw [q] at h; cases h
  | some xs =>
    rw [q] at h
    obtain ⟨a, us, rfl, h2, h3⟩ := lq_of R r q
    rw [ints_ok h3 h] at h2
    exact ⟨a, rfl, h2⟩
theorem db_sum : DenB T (rSum T.K) bSum := by
  intro ds vs H P ι F s Q E R r post
  unfold bSum at post
  split at post
  · obtain ⟨v, rfl, h1⟩ := rps1 r
    split at post
    · rename_i ns h
      obtain ⟨a, rfl, h2⟩ := ints_at R h1 h
      exact ⟨a, ns, rfl, h2, post.here R (by unfold Rp; rfl)⟩
    · exact post.elim
  · exact post.elim
theorem db_maxL : DenB T (rMax T.K) bMaxL := by
  intro ds vs H P ι F s Q E R r post
  unfold bMaxL at post
  split at post
  · obtain ⟨v, rfl, h1⟩ := rps1 r
    split at post
    · rename_i ns h
      split at post
      · rename_i hne
        obtain ⟨a, rfl, h2⟩ := ints_at R h1 h
        refine ⟨a, ns, rfl, h2, List.length_pos_iff.mpr hne, fun m hm hb => ?_⟩
        cases ns with
        | nil => exact absurd rfl hne
        | cons n ns =>
          have e : maxI (n :: ns) = m := foldl_max (List.mem_cons.mp hm) (hb n List.mem_cons_self) fun y hy => hb y (List.mem_cons_of_mem _ hy)
          rw [e] at post
          exact post.here R (by unfold Rp; rfl)
      · exact post.elim
    · exact post.elim
  · exact post.elim
theorem db_minL : DenB T (rMin T.K) bMinL := by
  intro ds vs H P ι F s Q E R r post
  unfold bMinL at post
  split at post
  · obtain ⟨v, rfl, h1⟩ := rps1 r
    split at post
    · rename_i ns h
      split at post
      · rename_i hne
        obtain ⟨a, rfl, h2⟩ := ints_at R h1 h
        refine ⟨a, ns, rfl, h2, List.length_pos_iff.mpr hne, fun m hm hb => ?_⟩
        cases ns with
        | nil => exact absurd rfl hne
        | cons n ns =>
          have e : minI (n :: ns) = m := foldl_min (List.mem_cons.mp hm) (hb n List.mem_cons_self) fun y hy => hb y (List.mem_cons_of_mem _ hy)
          rw [e] at post
          exact post.here R (by unfold Rp; rfl)
      · exact post.elim
    · exact post.elim
  · exact post.elim
end
/-! ## max(xs, default=d) -/
def rMaxDf (K : PySem.W.Frag) : List V → List V → Hp → VK → Prop := fun xs zs H Q => ∃ (a : Addr) (ns : List Int) (d : Int), xs = [.ref a] ∧ zs = [.int d] ∧ SqL K H a (ns.map V.int) ∧ Q (.int (if ns = [] then d else maxI ns)) H
theorem reads_ints {h : Heap} : ∀ {ns : List Int} {us : List Value}, Vals (ns.map V.int) us → ReadsAll h us (ns.map PyData.int) []
  | [], _, .nil => .nil
  | n :: ns, _, .cons r t => by
    obtain ⟨k, rfl⟩ := r
    exact .cons (.int n k) (reads_ints t)
theorem ints_layK : ∀ ns : List Int, PyData.depthAll (ns.map PyData.int) = 0
  | [] => rfl
  | n :: ns => by
    rw [List.map_cons]
    unfold PyData.depthAll
    rw [ints_layK ns]; rfl
theorem crk_max {X : Cx} (hc : X.calm = true) (hu : X.A.units + 64 < cLine) : CallRK X (.builtin "max") [Str.ofString "default"] (rMaxDf X.K) := by
  intro pins s σ H xs zs us ws Q I r rz h
  obtain ⟨a, ns, d, rfl, rfl, hs, q⟩ := h
  obtain ⟨its, rv, hl, _⟩ := I.list hs
  rw [Vals.ref1 r]
  obtain ⟨wd, rfl, td, rfl⟩ := rz.one
  have dep : PyData.depthAll (ns.map PyData.int) = 0 := (ints_layK ns)
  have hr := reads_ints (h := s.heap) rv
  have alk : PySem.W.AlikeAll (ns.map PyData.int) := ⟨fun x hx y hy => by
    obtain ⟨i, _, rfl⟩ := List.mem_map.mp hx
    obtain ⟨j, _, rfl⟩ := List.mem_map.mp hy
    rfl, fun x hx => by
    obtain ⟨i, _, rfl⟩ := List.mem_map.mp hx
    intro z; cases z⟩
  show wpAny _ _ (call (.builtin "max") [.ref a] [(Str.ofString "default", Value.int d td)]) _ _ _
  refine PySem.W.max_list_default (I.ok.hd hc) hl.isList (by rw [List.toList_toArray]; exact hr) alk (by rw [dep]; omega) (fun e h' tk hk => ?_) (fun y ys i v h' tk bs e hv rd hk => ?_)
  · have e0 : ns = [] := by simpa using e
    rw [if_pos e0] at q
    exact ⟨.int d, H, I.kept hk, ⟨_, rfl⟩, q⟩
  · cases ns with
    | nil => cases e
    | cons n ns =>
      rw [List.map_cons] at e
      injection e with e1 e2
      subst e1 e2
      rw [PySem.W.maxD_ints] at rd
      rw [if_neg (by simp)] at q
      cases rd with
      | int i t => exact ⟨.int _, H, I.kept hk, ⟨_, rfl⟩, q⟩
end Mp
/-! # MpL -/
namespace Mp
open PySem PySem.Spec PyProof.Rows L2
/-! ## a list cell is walked: meanwhile nobody may touch it -/
section
variable {T : Tb} {P : Hp} {ι : List Addr} {F : Hp} {s : Sto} {H : Hp}
theorem RelH.hold (R : RelH T P ι F s H) {n : Nat} {a : Addr} {xs : List D} (hs : s[n]? = some (.lst xs)) (hi : ι[n]? = some a) : ∃ vs, H a = some (.lst vs) ∧ Rps T F ι xs vs ∧ F a = none ∧ P a = none ∧ RelH T (upd P a (.lst vs)) ι F (s.set n .dead) H := by
  obtain ⟨hF, vs, h1, h2⟩ := R.cell _ _ _ hs hi
  have hP := R.npr _ _ _ hs rfl hi
  have hn := (List.getElem?_eq_some_iff.mp hs).1
  have at_ : ∀ {m : Nat} {d : Cell}, (s.set n .dead)[m]? = some d → d.live = true → m ≠ n ∧ s[m]? = some d := fun {m d} h l => by
    by_cases e : n = m
    · subst e
      rw [List.getElem?_set_self hn] at h
      cases h
      cases l
    · rw [List.getElem?_set_ne e] at h
      exact ⟨fun z => e z.symm, h⟩
  have ne : ∀ {m : Nat} {d : Cell} {b : Addr}, (s.set n .dead)[m]? = some d → d.live = true → ι[m]? = some b → b ≠ a := fun {m d b} h l hb z => by
    subst z
    obtain ⟨h3, h4⟩ := at_ h l
    exact h3 (R.nod m n d _ b h4 hs l rfl hb hi)
  refine ⟨vs, h1, h2, hF, hP, ⟨R.sub, fun b u h => ?_, fun b u h => ?_, by simp [R.len], fun m d b h3 h4 => ?_, fun m d b h3 l h4 => ?_, fun m k c1 c2 b h3 h4 l1 l2 h5 h6 => R.nod m k c1 c2 b (at_ h3 l1).2 (at_ h4 l2).2 l1 l2 h5 h6⟩⟩
  · by_cases e : b = a
    · subst e; rw [upd_same] at h; cases h; exact h1
    · rw [upd_ne e] at h; exact R.pro b u h
  · by_cases e : b = a
    · subst e; exact hF
    · rw [upd_ne e] at h; exact R.dis b u h
  · cases hd : d.live with
    | false =>
      cases d with
      | dead => trivial
      | _ => cases hd
    | true => exact R.cell m d b (at_ h3 hd).2 h4
  · rw [upd_ne (ne h3 l h4)]; exact R.npr m d b (at_ h3 l).2 l h4
/-- .. and it is back -/
theorem RelH.back {vs : List V} {xs : List D} {n : Nat} {a : Addr} (R : RelH T (upd P a (.lst vs)) ι F s H) (hP : P a = none) (hs : s[n]? = some .dead) (hi : ι[n]? = some a) (r : Rps T F ι xs vs) : RelH T P ι F (s.set n (.lst xs)) H := by
  have hn := (List.getElem?_eq_some_iff.mp hs).1
  have hH : H a = some (.lst vs) := R.pro a _ upd_same
  have hF : F a = none := R.dis a _ upd_same
  have at_ : ∀ {m : Nat} {d : Cell}, (s.set n (.lst xs))[m]? = some d → (m = n ∧ d = .lst xs) ∨ (m ≠ n ∧ s[m]? = some d) := fun {m d} h => by
    by_cases e : n = m
    · subst e
      rw [List.getElem?_set_self hn] at h
      exact .inl ⟨rfl, (Option.some.inj h).symm⟩
    · rw [List.getElem?_set_ne e] at h
      exact .inr ⟨fun z => e z.symm, h⟩
  have hio : ∀ {b : Addr}, ι[n]? = some b → b = a := fun {b} h => by rw [hi] at h; exact (Option.some.inj h).symm
  have ne : ∀ {m : Nat} {d : Cell} {b : Addr}, s[m]? = some d → d.live = true → ι[m]? = some b → b ≠ a := fun {m d b} h l hb z => by
    subst z
    have := R.npr m d b h l hb
    rw [upd_same] at this
    cases this
  refine ⟨R.sub, fun b u h => R.pro b u (by rw [upd_ne (ne_of_none h hP)]; exact h), fun b u h => R.dis b u (by rw [upd_ne (ne_of_none h hP)]; exact h), by simp [R.len], fun m d b h1 h2 => ?_, fun m d b h1 l h2 => ?_, fun m k c1 c2 b h1 h2 l1 l2 h3 h4 => ?_⟩
  · rcases at_ h1 with ⟨rfl, rfl⟩ | ⟨hm, h1⟩
    · rw [hio h2]; exact ⟨hF, vs, hH, r⟩
    · exact R.cell m d b h1 h2
  · rcases at_ h1 with ⟨rfl, rfl⟩ | ⟨hm, h1⟩
    · rw [hio h2]; exact hP
    · have := R.npr m d b h1 l h2
      rw [upd_ne (ne h1 l h2)] at this
      exact this
  · rcases at_ h1 with ⟨e1, f1⟩ | ⟨hm, k1⟩
    · rcases at_ h2 with ⟨e2, f2⟩ | ⟨hk, k2⟩
      · rw [e1, e2]
      · exact absurd (hio (e1 ▸ h3)) (ne k2 l2 h4)
    · rcases at_ h2 with ⟨e2, f2⟩ | ⟨hk, k2⟩
      · exact absurd (hio (e2 ▸ h4)) (ne k1 l1 h3)
      · exact R.nod m k c1 c2 b k1 k2 l1 l2 h3 h4
end
/-- a store with the cell back -/
def bkS (n : Nat) (xs : List D) (s : Sto) : Option Sto := match s[n]? with
  | some .dead => some (s.set n (.lst xs))
  | _ => none
def Out.back (n : Nat) (xs : List D) : Out → Out
  | .nx δ s => match bkS n xs s with | some s' => .nx δ s' | none => .stuck
  | .bk δ s => match bkS n xs s with | some s' => .bk δ s' | none => .stuck
  | .ct δ s => match bkS n xs s with | some s' => .ct δ s' | none => .stuck
  | .rt d s => match bkS n xs s with | some s' => .rt d s' | none => .stuck
  | .ex c δ s => match bkS n xs s with | some s' => .ex c δ s' | none => .stuck
  | .stuck => .stuck
def Res.back {α : Type} (n : Nat) (xs : List D) : Res α → Res α
  | .ok d s => match bkS n xs s with | some s' => .ok d s' | none => .stuck
  | .exc c s => match bkS n xs s with | some s' => .exc c s' | none => .stuck
  | .stuck => .stuck
section
variable {T : Tb}
theorem bk_ok {P : Hp} {ι0 ι : List Addr} {F0 F : Hp} {s s' : Sto} {H : Hp} {vs : List V} {xs : List D} {n : Nat} {a : Addr} (g : Grow F0 ι0 F ι) (R : RelH T (upd P a (.lst vs)) ι F s H) (hP : P a = none) (hi : ι0[n]? = some a) (r : Rps T F0 ι0 xs vs) (h : bkS n xs s = some s') : RelH T P ι F s' H := by
  unfold bkS at h
  split at h
  · rename_i hs
    cases h
    exact R.back hP hs (g.at hi) (r.mono g)
  · cases h
theorem posts_back {P : Hp} {En : Ends} {W : WX} {F : Hp} {ι : List Addr} {vs : List V} {xs : List D} {n : Nat} {a : Addr} {o : Out} (hP : P a = none) (hi : ι[n]? = some a) (r : Rps T F ι xs vs) (post : PostS T P En W F ι (o.back n xs)) : PostS T (upd P a (.lst vs)) En W F ι o := by
  cases o with
  | stuck => exact post
  | nx δ s =>
    unfold Out.back at post; dsimp only at post
    cases q : bkS n xs s with
    | none => rw [q] at post; exact post.elim
    | some s' => rw [q] at post; exact fun σ' H' ι' F' g R E => post σ' H' ι' F' g (bk_ok g R hP hi r q) E
  | bk δ s =>
    unfold Out.back at post; dsimp only at post
    cases q : bkS n xs s with
    | none => rw [q] at post; exact post.elim
    | some s' => rw [q] at post; exact fun σ' H' ι' F' g R E => post σ' H' ι' F' g (bk_ok g R hP hi r q) E
  | ct δ s =>
    unfold Out.back at post; dsimp only at post
    cases q : bkS n xs s with
    | none => rw [q] at post; exact post.elim
    | some s' => rw [q] at post; exact fun σ' H' ι' F' g R E => post σ' H' ι' F' g (bk_ok g R hP hi r q) E
  | rt d s =>
    unfold Out.back at post; dsimp only at post
    cases q : bkS n xs s with
    | none => rw [q] at post; exact post.elim
    | some s' => rw [q] at post; exact fun v H' ι' F' g R rv => post v H' ι' F' g (bk_ok g R hP hi r q) rv
  | ex c δ s =>
    unfold Out.back at post; dsimp only at post
    cases q : bkS n xs s with
    | none => rw [q] at post; exact post.elim
    | some s' => rw [q] at post; exact fun σ' H' ι' F' g R E => post σ' H' ι' F' g (bk_ok g R hP hi r q) E
theorem post_back {α β : Type} {Rl : Hp → List Addr → α → β → Prop} {P : Hp} {Q : β → Hp → Prop} {E : Nat → Hp → Prop} {F : Hp} {ι : List Addr} {vs : List V} {xs : List D} {n : Nat} {a : Addr} {o : Res α} (hP : P a = none) (hi : ι[n]? = some a) (r : Rps T F ι xs vs) (post : Post T P Rl Q E F ι (o.back n xs)) : Post T (upd P a (.lst vs)) Rl Q E F ι o := by
  cases o with
  | stuck => exact post
  | ok d s =>
    unfold Res.back at post; dsimp only at post
    cases q : bkS n xs s with
    | none => rw [q] at post; exact post.elim
    | some s' => rw [q] at post; exact fun v H' ι' F' g R rv => post v H' ι' F' g (bk_ok g R hP hi r q) rv
  | exc c s =>
    unfold Res.back at post; dsimp only at post
    cases q : bkS n xs s with
    | none => rw [q] at post; exact post.elim
    | some s' => rw [q] at post; exact fun H' ι' F' g R => post H' ι' F' g (bk_ok g R hP hi r q)
end
/-! ## for, comprehensions over a list cell: the walk goes by the heap that stays, the protected part among it -/
def WalksP (T : Tb) (J : It) (ds : List D) (P F : Hp) (ι : List Addr) : Prop :=
  L2.Walk J ds.length (fun H => (∀ a o, F a = some o → H a = some o) ∧ ∀ a o, P a = some o → H a = some o) fun i H x H2 => ∃ d, ds[i]? = some d ∧
    ((H2 = H ∧ Rp T F ι d x) ∨ ∃ p vs xs, x = .ref p ∧ H p = none ∧ H2 = upd H p (.tup vs) ∧ d = .tup xs ∧ Rps T F ι xs vs)
theorem Walks.toP {T : Tb} {J : It} {ds : List D} {F : Hp} {ι : List Addr} (P : Hp) (w : Walks T J ds F ι) : WalksP T J ds P F ι := Walk.mono w (fun H h => h.1) fun _ _ _ _ _ _ y => y
theorem walksP_cell {T : Tb} {P F : Hp} {ι : List Addr} {a : Addr} {vs : List V} {ds : List D} (h : P a = some (.lst vs)) (r : Rps T F ι ds vs) : WalksP T (Itl T.K a) ds P F ι := by
  have w : L2.Walk (Itl T.K a) vs.length (fun H => SqL T.K H a vs) (YAt vs) := walk_list
  unfold WalksP
  rw [r.len]
  refine w.mono (fun H hF => SqL.of (hF.2 _ _ h)) fun i H x H' hi hF y => ?_
  obtain ⟨e1, e2⟩ := y
  have hi' : i < ds.length := by rw [r.len]; exact hi
  obtain ⟨d, hd⟩ := get_lt hi'
  obtain ⟨v, h1, h2⟩ := r.get hd
  rw [e2] at h1
  cases h1
  exact ⟨d, hd, .inl ⟨e1, h2⟩⟩
section
variable {T : Tb}
/-- the turns of a for, whatever was walked -/
theorem for_run {W : WX} {g : TG} {ws : List Nat} {t : DTg} {tb : TS} {body : DS} (hg : DenT T ws g t) (hb : DenS T W tb body) {J : It} {ds : List D} {En : Ends} {σ : L2.St} {H1 P : Hp} {ι1 : List Addr} {F1 : Hp} {δ : Env} {s1 : Sto} (w : WalksP T J ds P F1 ι1) (R1 : RelH T P ι1 F1 s1 H1) (E1 : REnv T F1 ι1 δ σ)
    (post1 : PostS T P En W F1 ι1 (forL t body ds δ s1)) :
    ∃ W' : Nat → Nat → L2.St → Hp → Prop, (∃ m, W' 0 m σ H1) ∧ ∀ i m σ H, W' i m σ H →
      (J.stop i H ∧ En.nx σ H) ∨ (J.go i H ∧ ∃ N : L2.St → Hp → Prop, (∀ σ' H', N σ' H' → ∃ m', m' < m ∧ W' (i + 1) m' σ' H') ∧ ∀ x H', J.yld i H x H' → g x σ H' fun σ2 H2 => tb { En with nx := N, ct := N, bk := En.nx } σ2 H2) := by
  refine for_it w (fun i σ' H' => ∃ ι' F' δ' s', Grow F1 ι1 F' ι' ∧ RelH T P ι' F' s' H' ∧ REnv T F' ι' δ' σ' ∧ PostS T P En W F' ι' (forL t body (ds.drop i) δ' s')) ⟨ι1, F1, δ, s1, Grow.refl _ _, R1, E1, by simpa using post1⟩ ?_ ?_ ?_
  · rintro i σ' H' _ ⟨ι', F', δ', s', g', R', E', _⟩
    exact ⟨fun a o h => R'.sub _ _ (g'.1 _ _ h), fun a o h => R'.pro _ _ h⟩
  · rintro i x σ' H' H2 hi ⟨ι', F', δ', s', g', R', E', post'⟩ ⟨d, hd, y⟩
    obtain ⟨F2, g2, R2, r2⟩ := item_ok g' R' y
    rw [drop_get hd] at post'
    unfold forL at post'
    cases q : t d δ' with
    | none => rw [q] at post'; exact post'.elim
    | some δ1 =>
      rw [q] at post'
      dsimp only at post'
      refine hg _ _ _ _ _ _ _ _ _ _ _ R2 (E'.mono g2) r2 q fun σ2 E2 _ => ?_
      refine hb _ _ _ _ _ _ _ _ R2 E2 ?_
      cases qb : body δ1 s' with
      | nx δ2 s2 =>
        rw [qb] at post'
        exact fun σ3 H3 ι3 F3 g3 R3 E3 => ⟨ι3, F3, δ2, s2, (g'.trans g2).trans g3, R3, E3, post'.mono (g2.trans g3)⟩
      | ct δ2 s2 =>
        rw [qb] at post'
        exact fun σ3 H3 ι3 F3 g3 R3 E3 => ⟨ι3, F3, δ2, s2, (g'.trans g2).trans g3, R3, E3, post'.mono (g2.trans g3)⟩
      | bk δ2 s2 => rw [qb] at post'; exact post'.mono g2
      | rt d2 s2 => rw [qb] at post'; exact post'.mono g2
      | ex c δ2 s2 => rw [qb] at post'; exact post'.mono g2
      | stuck => rw [qb] at post'; exact post'.elim
  · rintro σ' H' ⟨ι', F', δ', s', g', R', E', post'⟩
    rw [List.drop_length] at post'
    exact post' σ' H' ι' F' (Grow.refl _ _) R' E'
/-- for x in o, o a list, a tuple, a text, or a list cell -/
def sForA (f : DE) (t : DTg) (body : DS) : DS := fun δ s => (f δ s).out δ fun x s1 => match x with
  | .loc n => match s1[n]? with
    | some (.lst xs) => (forL t body xs δ (s1.set n .dead)).back n xs
    | _ => .stuck
  | .lst xs => forL t body xs δ s1
  | .scr ns => forL t body (ns.map D.int) δ s1
  | .tup xs => forL t body xs δ s1
  | .str z => forL t body (z.map fun c => D.str [c]) δ s1
  | _ => .stuck
theorem s_forA {X : Cx} {tg iter : Expr} {body : List Stmt} {pos : Pos} {f : DE} {ws : List Nat} {t : DTg} {g : DS} (hi : PDe T X iter f) (hg : PDg T X tg ws t) (hb : PDb T X body g) (hc : X.calm = true := by rfl) (hs : ∀ x, foldedSetIterable iter X.env x = pure x := by intro _; rfl) (hK : X.K = T.K := by rfl) :
    PDs T X (.For tg iter body [] pos) (sForA f t g) := fun pn xe W tk ow => by
  obtain ⟨t1, p1, d1⟩ := hi pn xe W tk
  obtain ⟨g1, p2, d2⟩ := hg pn xe
  obtain ⟨tb, p3, d3⟩ := hb pn xe W tk ow
  have hK' : (X.tr pn xe).K = T.K := hK
  have wi : PI (X.tr pn xe) tg iter (fun σ H R => (iList T.K t1 σ H R ∨ iTup T.K t1 σ H R) ∨ iStr t1 σ H R) := by
    have := PI.or (PI.or (pi_list (X := X.tr pn xe) (tg := tg) p1) (pi_tup p1)) (pi_str p1)
    rw [hK'] at this
    exact this
  refine ⟨_, ps_for (X := X.tr pn xe) ow hc wi p2 p3 hs, fun En σ H P ι F δ s R E post => ?_⟩
  have post0 : PostS T P En W F ι ((f δ s).out δ fun x s1 => match x with
    | .loc n => match s1[n]? with
      | some (.lst xs) => (forL t g xs δ (s1.set n .dead)).back n xs
      | _ => .stuck
    | .lst xs => forL t g xs δ s1
    | .scr ns => forL t g (ns.map D.int) δ s1
    | .tup xs => forL t g xs δ s1
    | .str z => forL t g (z.map fun c => D.str [c]) δ s1
    | _ => .stuck) := post
  cases e : f δ s with
  | stuck => rw [e] at post0; exact post0.elim
  | exc k s1 =>
    rw [e] at post0
    refine .inl (.inl ?_)
    show t1 σ H _
    refine d1 σ H P ι F δ s _ R E ?_
    rw [e]
    exact fun H' ι' F' g R' => post0 σ H' ι' F' g R' (E.mono g)
  | ok x s1 =>
    rw [e] at post0
    have run : ∀ {G : V → Hp → Prop}, (∀ v H' ι' F', Grow F ι F' ι' → RelH T P ι' F' s1 H' → Rp T F' ι' x v → G v H') → t1 σ H G := fun {G} h => by
      refine d1 σ H P ι F δ s G R E ?_
      rw [e]
      exact h
    cases x with
    | lst xs =>
      refine .inl (.inl ?_)
      show t1 σ H _
      refine run fun v H1 ι1 F1 g1 R1 r1 => ?_
      unfold Rp at r1
      obtain ⟨a, vs, rfl, h1, h2⟩ := r1
      exact ⟨a, rfl, ⟨vs, SqL.of (R1.sub _ _ h1)⟩, for_run d2 d3 ((walks_list (SqL.of h1) h2).toP P) R1 (E.mono g1) (PostS.mono g1 post0)⟩
    | scr ns =>
      refine .inl (.inl ?_)
      show t1 σ H _
      refine run fun v H1 ι1 F1 g1 R1 r1 => ?_
      unfold Rp at r1
      obtain ⟨a, rfl, h1⟩ := r1
      exact ⟨a, rfl, ⟨_, sql_mono R1.sub h1⟩, for_run d2 d3 ((walks_list h1 (rps_ints ns)).toP P) R1 (E.mono g1) (PostS.mono g1 post0)⟩
    | tup xs =>
      refine .inl (.inr ?_)
      show t1 σ H _
      refine run fun v H1 ι1 F1 g1 R1 r1 => ?_
      obtain ⟨a, vs, rfl, h1, h0, h2⟩ := tp_of R1 r1
      exact ⟨a, rfl, ⟨vs, SqT.of h1⟩, for_run d2 d3 ((walks_tup h0 h2).toP P) R1 (E.mono g1) (PostS.mono g1 post0)⟩
    | str z =>
      refine .inr ?_
      show t1 σ H _
      refine run fun v H1 ι1 F1 g1 R1 r1 => ?_
      unfold Rp at r1
      exact ⟨S z, r1, for_run d2 d3 ((walks_str z).toP P) R1 (E.mono g1) (PostS.mono g1 post0)⟩
    | loc n =>
      refine .inl (.inl ?_)
      show t1 σ H _
      refine run fun v H1 ι1 F1 g1 R1 r1 => ?_
      have post1 : PostS T P En W F ι (match s1[n]? with
        | some (.lst xs) => (forL t g xs δ (s1.set n .dead)).back n xs
        | _ => .stuck) := post0
      unfold Rp at r1
      obtain ⟨a, e1, rfl⟩ := r1
      split at post1
      · rename_i xs hs1
        obtain ⟨vs, h1, h2, h3, h4, R2⟩ := R1.hold hs1 e1
        refine ⟨a, rfl, ⟨vs, SqL.of h1⟩, for_run d2 d3 (walksP_cell (P := upd P a (.lst vs)) upd_same h2) R2 (E.mono g1) (posts_back h4 e1 h2 (PostS.mono g1 post1))⟩
      · exact post1.elim
    | _ => exact post0.elim
end
end Mp
/-! # MpM -/
namespace Mp
open PySem PySem.Spec PyProof.Rows L2
/-! ## the head's Bools: methods by the table, classes without an __init__, isinstance -/
def moB (l : List (Str × Str × Str)) (K : PySem.W.Frag) : Bool := l.all fun q => decide (PySem.W.findIn K (.ref (He.ga K q.1)) q.2.1 = some (some (.ref (He.ma K (He.ga K q.2.2) q.2.1)))) && (PySem.W.isFn K (.ref (He.ma K (He.ga K q.2.2) q.2.1)) && PySem.W.keepIn K (.ref (He.ma K (He.ga K q.2.2) q.2.1)))
theorem mo_ok {l : List (Str × Str × Str)} {K : PySem.W.Frag} (h : moB l K = true) {c m b : Str} (hm : (c, m, b) ∈ l) : Meth K (He.ga K c) m (He.ma K (He.ga K b) m) := by
  unfold moB at h
  have z := List.all_eq_true.mp h _ hm
  simp only [Bool.and_eq_true, decide_eq_true_eq] at z
  exact ⟨z.1, z.2.1, z.2.2⟩
def mk0B (l : List Str) (K : PySem.W.Frag) : Bool := l.all fun c => PySem.W.makesIn K (He.ga K c) && (decide (PySem.W.findIn K (.ref (He.ga K c)) "__init__" = some (some (.builtin "object.__init__"))) && (decide (PySem.W.mroIn K (He.ga K c) (.type "object") = some true) && PySem.W.keepIn K (.ref (He.ga K c))))
theorem mk0_ok {l : List Str} {K : PySem.W.Frag} (h : mk0B l K = true) {c : Str} (hm : c ∈ l) : Mk0 K (He.ga K c) := by
  unfold mk0B at h
  have z := List.all_eq_true.mp h _ hm
  simp only [Bool.and_eq_true, decide_eq_true_eq] at z
  exact ⟨z.1, z.2.1, z.2.2.1, z.2.2.2⟩
abbrev kiTy : List String := ["NoneType", "bool", "int", "str", "list", "tuple", "dict"]
def kiB (ca : PySem.W.Frag → Nat → Addr) (par : List Nat) (cs : List Nat) (K : PySem.W.Frag) : Bool :=
  cs.all fun d => (cs.all fun c => decide (PySem.W.kitOne K (.ref (ca K c)) (.ref (ca K d)) = some (ancF par par.length c d))) && kiTy.all fun t => decide (PySem.W.kitOne K (.type t) (.ref (ca K d)) = some false)
structure KiT (K : PySem.W.Frag) (ca : Nat → Addr) (par : List Nat) (cs : List Nat) : Prop where
  own : ∀ c ∈ cs, ∀ d ∈ cs, PySem.W.kitOne K (.ref (ca c)) (.ref (ca d)) = some (ancF par par.length c d)
  ty : ∀ t ∈ kiTy, ∀ d ∈ cs, PySem.W.kitOne K (.type t) (.ref (ca d)) = some false
theorem kiT_of {ca : PySem.W.Frag → Nat → Addr} {par cs : List Nat} {K : PySem.W.Frag} (h : kiB ca par cs K = true) : KiT K (ca K) par cs := by
  unfold kiB at h
  rw [List.all_eq_true] at h
  refine ⟨fun c hc d hd => ?_, fun t ht d hd => ?_⟩
  · have z := h d hd
    rw [Bool.and_eq_true] at z
    exact of_decide_eq_true (List.all_eq_true.mp z.1 c hc)
  · have z := h d hd
    rw [Bool.and_eq_true] at z
    exact of_decide_eq_true (List.all_eq_true.mp z.2 t ht)
section
variable {T : Tb} {X : Cx}
/-! ## isinstance, own classes among -/
def bIsO (parT par cs : List Nat) : DB := fun ds s => match ds with
  | [.exc k, c] => bIsA parT [.exc k, c] s
  | [x, .cls d] => if d ∈ cs then match obOf s x with
    | some (c, _, _) => if c ∈ cs then .ok (.bl (ancF par par.length c d)) s else .stuck
    | none => match tyOf s x with
      | some t => if t ∈ kiTy then .ok (.bl false) s else .stuck
      | none => .stuck
    else .stuck
  | ds => bIsA parT ds s
theorem db_isO {parT par cs : List Nat} {nF n1 : Nat} (x1 : ExT T.K T.ca parT n1) (ob : ObT T.K T.ca T.fm cs nF) (ki : KiT T.K T.ca par cs) : DenB T (rIsA T.K) (bIsO parT par cs) := by
  intro ds vs H P ι F s Q E R r post
  unfold bIsO at post
  split at post
  · exact db_isA x1 _ _ _ _ _ _ _ _ _ R r post
  · obtain ⟨v, u, rfl, h1, h2⟩ := rps2 r
    unfold Rp at h2
    subst h2
    split at post
    · rename_i hd
      split at post
      · rename_i c ns us q
        split at post
        · rename_i hc
          obtain ⟨a, dx, fs, rfl, h3, _, _⟩ := ob_of R h1 q
          exact .inl ⟨_, _, _, _, _, rfl, .own _, .base (.ins h3 (ob.cls c hc) (ob.ha c hc) ob.hn ob.htk (ob.hm c hc)), ki.own c hc _ hd, post.here R (by unfold Rp; rfl)⟩
        · exact post.elim
      · split at post
        · rename_i t ht
          split at post
          · rename_i hk
            exact .inl ⟨_, _, _, _, _, rfl, .own _, ty_ok R h1 ht, ki.ty _ hk _ hd, post.here R (by unfold Rp; rfl)⟩
          · exact post.elim
        · exact post.elim
    · exact post.elim
  · exact db_isA x1 _ _ _ _ _ _ _ _ _ R r post
/-! ## a cell that was just made stays as it is -/
def frzL (n : Nat) : Res D → Res D
  | .ok (.loc m) s2 => match s2[n]? with
    | some (.lst xs) => if (decide (m = n) && (decide (s2.length = n + 1) && (belows n xs && (s2.take n).all (Cell.below n)))) = true then .ok (.lst xs) (s2.take n) else .stuck
    | _ => .stuck
  | .exc k s2 => cutX n k s2
  | _ => .stuck
theorem post_frzL {P : Hp} {ι : List Addr} {F : Hp} {s : Sto} {H : Hp} {Q : VK} {E : Nat → Hp → Prop} {r : Res D} (R : RelH T P ι F s H) (post : Post T P (Rp T) Q E F ι (frzL s.length r)) : Post T P (Rp T) Q E F ι r := by
  cases r with
  | stuck => exact post
  | exc k s2 =>
    have post' : Post T P (Rp T) Q E F ι (cutX s.length k s2) := post
    unfold cutX at post'
    split at post'
    · exact post'
    · split at post'
      · rename_i hb
        simp only [Bool.and_eq_true, decide_eq_true_eq] at hb
        exact fun H' ι' F' g R' => post' H' _ F' (takeG g R.len) (R'.cut hb.2)
      · exact post'.elim
  | ok d s2 =>
    cases d with
    | loc m =>
      unfold frzL at post
      dsimp only at post
      split at post
      · rename_i xs hs
        split at post
        · rename_i hb
          simp only [Bool.and_eq_true, decide_eq_true_eq] at hb
          obtain ⟨rfl, hb1, hb2, hb3⟩ := hb
          intro v H' ι' F' g R' rv
          unfold Rp at rv
          obtain ⟨a, e1, rfl⟩ := rv
          obtain ⟨h1, fs, h2, h4⟩ := R'.cell _ _ _ hs e1
          have R2 := R'.freeze hs rfl e1 h1 h2
          have g2 : Grow F' ι' (upd F' a (.lst fs)) ι' := grow_new h1 _
          have e3 : (s2.set s.length .dead).take s.length = s2.take s.length := by
            rw [List.take_set, List.set_eq_of_length_le (by rw [List.length_take]; omega)]
          have R3 := R2.cut (n := s.length) (by rw [e3]; exact hb3)
          rw [e3] at R3
          refine post (.ref a) H' _ _ (takeG (g.trans g2) R.len) R3 ?_
          unfold Rp
          exact ⟨a, fs, rfl, upd_same, (h4.mono g2).takeI hb2⟩
        · exact post.elim
      · exact post.elim
    | _ => exact post.elim
def dFrz (f : DE) : DE := fun δ s => frzL s.length (f δ s)
theorem d_frz {e : Expr} {f : DE} (h : PDe T X e f) : PDe T X e (dFrz f) := fun pn xe W tk => by
  obtain ⟨t1, p1, d1⟩ := h pn xe W tk
  exact ⟨t1, p1, fun σ H P ι F δ s Q R E post => d1 σ H P ι F δ s Q R E (post_frzL R post)⟩
/-- list + list, as a cell -/
def oAddC : DOp := fun x y s => match lsOf s x, lsOf s y with
  | some a, some b => if a.length + b.length ≤ lim then .ok (.loc s.length) (s ++ [.lst (a ++ b)]) else .stuck
  | _, _ => .stuck
theorem do_addC : DenOp T (rAddA T.K) oAddC := by
  intro x y dx dy H P ι F s Q E R rx ry post
  unfold oAddC at post
  split at post
  · rename_i a b h1 h2
    obtain ⟨p, vs, rfl, e1, e2⟩ := ls_of R rx h1
    obtain ⟨q, us, rfl, e3, e4⟩ := ls_of R ry h2
    split at post
    · rename_i hl
      refine .inr (.inr (.inl ⟨p, q, vs, us, rfl, rfl, e1, e3, by rw [← e2.len, ← e4.len]; exact lim_le hl, fun l hl => post_loc post R hl ?_⟩))
      exact ⟨R.freeF hl, _, upd_same, (e2.app e4).mono (grow_app _ _ _)⟩
    · exact post.elim
  · exact post.elim
/-! ## list.clear, .reverse, .pop -/
def mClear : DM
  | .loc n, [], s => match s[n]? with
    | some (.lst _) => .ok .non (s.set n (.lst []))
    | _ => .stuck
  | _, _, _ => .stuck
theorem dm_clear : DenM T rClear mClear := by
  intro d ds v vs H P ι F s Q E R r rs post
  unfold mClear at post
  split at post
  · rename_i n
    cases (show vs = [] by unfold Rps at rs; exact rs)
    unfold Rp at r
    obtain ⟨a, e1, rfl⟩ := r
    split at post
    · rename_i xs hs
      obtain ⟨h2, us, h3, h4⟩ := lc_of R hs e1
      refine ⟨a, us, rfl, rfl, h3, ?_⟩
      exact post .non _ ι F (Grow.refl _ _) (R.setC hs rfl e1 ⟨h2, _, upd_same, .nil⟩) (by unfold Rp; rfl)
    · exact post.elim
  · exact post.elim
theorem Rps.rev {F : Hp} {ι : List Addr} : ∀ {ds : List D} {vs : List V}, Rps T F ι ds vs → Rps T F ι ds.reverse vs.reverse
  | [], vs, h => by unfold Rps at h; subst h; exact .nil
  | d :: ds, vs, h => by
    unfold Rps at h
    obtain ⟨v, us, rfl, h1, h2⟩ := h
    rw [List.reverse_cons, List.reverse_cons]
    exact (Rps.rev h2).app (.cons h1 .nil)
def mReverse : DM
  | .loc n, [], s => match s[n]? with
    | some (.lst xs) => .ok .non (s.set n (.lst xs.reverse))
    | _ => .stuck
  | _, _, _ => .stuck
theorem dm_reverse : DenM T rReverse mReverse := by
  intro d ds v vs H P ι F s Q E R r rs post
  unfold mReverse at post
  split at post
  · rename_i n
    cases (show vs = [] by unfold Rps at rs; exact rs)
    unfold Rp at r
    obtain ⟨a, e1, rfl⟩ := r
    split at post
    · rename_i xs hs
      obtain ⟨h2, us, h3, h4⟩ := lc_of R hs e1
      refine ⟨a, us, rfl, rfl, h3, ?_⟩
      exact post .non _ ι F (Grow.refl _ _) (R.setC hs rfl e1 ⟨h2, _, upd_same, h4.rev⟩) (by unfold Rp; rfl)
    · exact post.elim
  · exact post.elim
/-! ## list(range(a)) -/
def dListR (f : DE) : DE := fun δ s => (f δ s).bind fun x s1 => match x with
  | .int n => if 0 ≤ n ∧ n ≤ 1000 then .ok (.lst (intsD 0 n.toNat)) s1 else .stuck
  | _ => .stuck
theorem rgV_eq (n : Int) : rgV 0 n = (List.range n.toNat).map fun (i : Nat) => V.int (0 + (i : Int)) := by
  unfold rgV
  rw [show n - 0 = n by omega]
theorem rps_rg {F : Hp} {ι : List Addr} (n : Nat) : Rps T F ι (intsD 0 n) ((List.range n).map fun (i : Nat) => V.int (0 + (i : Int))) := by
  have := rps_ints (T := T) (F := F) (ι := ι) ((List.range n).map fun (i : Nat) => 0 + (i : Int))
  rw [List.map_map, List.map_map] at this
  exact this
theorem d_listR {a : Expr} {f : DE} {p p2 q pos : Pos} (hm : X.mg "list" = none) (hm2 : X.mg "range" = none) (ha : PDe T X a f) (hg : Gl X "list" := by rfl) (hg2 : Gl X "range" := by rfl) (hc : X.calm = true := by rfl)
    (na : starEach [a] X.env = (false, eval a X.env) :: starEach [] X.env := by rfl) (na2 : starEach [Expr.Call (.Name "range" p2) [a] [] q] X.env = (false, eval (Expr.Call (.Name "range" p2) [a] [] q) X.env) :: starEach [] X.env := by rfl) : PDe T X (.Call (.Name "list" p) [.Call (.Name "range" p2) [a] [] q] [] pos) (dListR f) := fun pn xe W tk => by
  obtain ⟨t1, p1, d1⟩ := ha pn xe W tk
  refine ⟨_, pe_listRg (X := X.tr pn xe) hc hg hm (prg_1 hg2 hm2 p1 na) na2, fun σ H P ι F δ s Q R E post => ?_⟩
  show t1 σ H _
  refine den_then d1 R E post fun x y H1 ι1 F1 s1 g1 R1 E1 r1 post1 => ?_
  split at post1
  · rename_i n
    unfold Rp at r1
    subst r1
    split at post1
    · rename_i hn
      refine ⟨n, rfl, RgOk.of_le (by omega) (by omega) (by omega) (by omega), fun q hq => ?_⟩
      refine post1.new R1 hq fun g => ?_
      unfold Rp
      refine ⟨q, _, rfl, upd_same, ?_⟩
      rw [rgV_eq]
      exact rps_rg _
    · exact post1.elim
  · exact post1.elim
/-! ## keywords -/
def PDkw (T : Tb) (X : Cx) (kws : List Keyword) (f : DA) : Prop := ∀ pn xe W, Takes (X.tr pn xe) W → ∃ t, PK (X.tr pn xe) kws t ∧ DenG T (RpsN T kws.length) W t f
theorem kw_nil : PDkw T X [] aNil := fun pn xe W _ => ⟨_, pk_nil, fun _ _ _ _ _ _ _ _ R _ post => post.here R ⟨.nil, rfl⟩⟩
theorem kw_one {nm : Option Str} {e : Expr} {kpos : Pos} {f : DE} (he : PDe T X e f) : PDkw T X [⟨nm, e, kpos⟩] (aCons f aNil) := fun pn xe W tk => by
  obtain ⟨t1, p1, d1⟩ := he pn xe W tk
  exact ⟨_, pk_cons p1 pk_nil, den_cons d1 (n := 0) fun _ _ _ _ _ _ _ _ R _ post => post.here R ⟨.nil, rfl⟩⟩
def bMaxD : List D → List D → Sto → Res D
  | [x], [.int d], s => match (lqOf s x).bind intsOf with
    | some ns => .ok (.int (if ns = [] then d else maxI ns)) s
    | none => .stuck
  | _, _, _ => .stuck
def dMaxD (fa fz : DA) : DE := fun δ s => (fa δ s).bind fun ds s1 => (fz δ s1).bind fun zs s2 => bMaxD ds zs s2
theorem d_maxD {e : Expr} {kws : List Keyword} {p pos : Pos} {fa fz : DA} (hm : X.mg "max" = none) (ha : PDa T X [e] fa) (hk : PDkw T X kws fz) (hc : X.calm = true := by rfl) (hu : X.A.units + 64 < cLine) (hg : Gl X "max" := by rfl) (hK : X.K = T.K := by rfl)
    (he : backTo pos (starEach [e] X.env) = (false, eval e X.env) :: backTo pos (starEach [] X.env) := by rfl) (hpl : (backTo pos (starEach [e] X.env)).any (·.1) = false := by rfl)
    (hall : (backToKw pos (keywordEach kws X.env)).all (·.1.isSome) = true := by rfl) (hnone : (backToKw pos (keywordEach kws X.env)).any (·.1.isNone) = false := by rfl) (hks : (backToKw pos (keywordEach kws X.env)).filterMap (·.1) = [Str.ofString "default"] := by rfl) :
    PDe T X (.Call (.Name "max" p) [e] kws pos) (dMaxD fa fz) := fun pn xe W tk => by
  obtain ⟨t1, p1, d1⟩ := ha pn xe W tk
  obtain ⟨t2, p2, d2⟩ := hk pn xe W tk
  have hK' : (X.tr pn xe).K = T.K := hK
  refine ⟨_, pe_callBK (X := X.tr pn xe) (crk_max hc hu) hg hm (by decide +kernel) p1 p2 (by decide) (by decide) he hpl hall hnone hks, fun σ H P ι F δ s Q R E post => ?_⟩
  rw [hK']
  show t1 σ H _
  refine den_then d1 R E post fun ds vs H1 ι1 F1 s1 g1 R1 E1 r1 post1 => ?_
  refine den_then d2 R1 E1 post1 fun zs ws H2 ι2 F2 s2 g2 R2 E2 r2 post2 => ?_
  have ra := r1.1.mono g2
  unfold bMaxD at post2
  split at post2
  · obtain ⟨v, e1, h1⟩ := rps1 ra
    obtain ⟨w, e2, h2⟩ := rps1 r2.1
    subst e1 e2
    unfold Rp at h2
    subst h2
    split at post2
    · rename_i ns hn
      obtain ⟨a, rfl, h3⟩ := ints_at R2 h1 hn
      exact ⟨a, ns, _, rfl, rfl, h3, post2.here R2 (by unfold Rp; rfl)⟩
    · exact post2.elim
  · exact post2.elim
/-! ## comprehensions over a list cell -/
/-- what is walked, and the cell that is held meanwhile -/
def itCel (x : D) (s : Sto) : Option (List D × Sto × Option (Nat × List D)) := match x with
  | .loc n => match s[n]? with
    | some (.lst xs) => some (xs, s.set n .dead, some (n, xs))
    | _ => none
  | .lst xs => some (xs, s, none)
  | .scr ns => some (ns.map D.int, s, none)
  | .tup xs => some (xs, s, none)
  | .str z => some (z.map fun c => D.str [c], s, none)
  | _ => none
def backO : Option (Nat × List D) → Res D → Res D
  | none, r => r
  | some (n, xs), r => r.back n xs
def dLcA (f : DE) (t : DTg) (c : DT) (e : DE) (vs : List Nat) : DE := fun δ s => (f δ s).bind fun x s1 => match itCel x s1 with
  | some (ds, s2, h) => backO h (lcL t c e (wipeE δ vs) ds [] s2)
  | none => .stuck
/-- the turns of a comprehension, whatever was walked -/
theorem lc_run {W : WX} {ws vs : List Nat} {t : DTg} {c : DT} {e : DE} (hs : ∀ i ∈ ws, i ∈ vs) {J : It} {ds : List D} {σ : L2.St} {H1 P : Hp} {ι1 : List Addr} {F1 : Hp} {δ : Env} {s1 : Sto} {Q : VK} (w : WalksP T J ds P F1 ι1) (R1 : RelH T P ι1 F1 s1 H1) (E1 : REnv T F1 ι1 δ σ)
    (post1 : Post T P (Rp T) Q (fun c H' => W (.ref (T.ca c)) none σ H') F1 ι1 (lcL t c e (wipeE δ vs) ds [] s1)) : ∀ L, H1 L = none →
    ∃ W' : Nat → Nat → Hp → Prop, (∃ m, W' 0 m (upd H1 L (.lst []))) ∧ ∀ i m H, W' i m H →
      (J.stop i H ∧ Q (.ref L) H) ∨ (J.go i H ∧ ∃ Nx : Hp → Prop, (∀ H', Nx H' → ∃ m', m' < m ∧ W' (i + 1) m' H') ∧ ∀ x H', J.yld i H x H' → canT T ws t x (L2.wipe σ vs) H' fun σ2 H2 => L2.wipe σ2 vs = L2.wipe σ vs ∧ canE T eqR W0 c σ2 H2 fun b H3 =>
        if b = true then canE T (Rp T) W0 e σ2 H3 (fun y H4 => ∃ ys, H4 L = some (.lst ys) ∧ ys.length < sizeLine ∧ Nx (upd H4 L (.lst (ys ++ [y])))) else Nx H3) := fun L hL => by
  have hPL : P L = none := R1.freeP hL
  refine lc_it w (fun i H' => ∃ ι' F' s' acc vacc, Grow F1 ι1 F' ι' ∧ RelH T (upd P L (.lst vacc)) ι' F' s' H' ∧ Rps T F' ι' acc vacc ∧
      Post T P (Rp T) Q (fun c H' => W (.ref (T.ca c)) none σ H') F' ι' (lcL t c e (wipeE δ vs) (ds.drop i) acc s'))
    ⟨ι1, F1, s1, [], [], Grow.refl _ _, R1.newP hL _, .nil, by simpa using post1⟩ ?_ ?_ ?_
  · rintro i H' _ ⟨ι', F', s', acc, vacc, g', R', _, _⟩
    exact ⟨fun a o h => R'.sub _ _ (g'.1 _ _ h), fun a o h => R'.pro _ _ (by rw [upd_ne (ne_of_none h hPL)]; exact h)⟩
  · rintro i x H' H2 hi' ⟨ι', F', s', acc, vacc, g', R', ra, post'⟩ ⟨d, hd, y⟩
    obtain ⟨F2, g2, R2, r2⟩ := item_ok g' R' y
    rw [drop_get hd] at post'
    unfold lcL at post'
    have Ew : REnv T F2 ι' (wipeE δ vs) (L2.wipe σ vs) := ((E1.mono g').mono g2).wipe vs
    cases q : t d (wipeE δ vs) with
    | none => rw [q] at post'; exact post'.elim
    | some δ1 =>
      rw [q] at post'
      dsimp only at post'
      refine ⟨_, ι', F2, _, δ1, s', d, R2, Ew, r2, q, fun σ2 E2 o2 => ⟨o2.wipe hs |>.trans ?_, ?_⟩⟩
      · refine List.ext_getElem? fun j => ?_
        rw [wipe_at, wipe_at, wipe_length]
        by_cases c : j ∈ vs ∧ j < σ.length
        · rw [if_pos c, if_pos c]
        · rw [if_neg c, if_neg c]
      · refine ⟨_, ι', F2, δ1, s', R2, E2, ?_⟩
        cases qc : c δ1 s' with
        | stuck => rw [qc] at post'; exact post'.elim
        | exc k s2 => rw [qc] at post'; exact post'.elim
        | ok b s2 =>
          rw [qc] at post'
          intro b' H3 ι3 F3 g3 R3 eb
          cases eb
          cases b with
          | false =>
            rw [if_neg Bool.false_ne_true]
            exact ⟨ι3, F3, s2, acc, vacc, (g'.trans g2).trans g3, R3, ra.mono (g2.trans g3), post'.mono (g2.trans g3)⟩
          | true =>
            rw [if_pos rfl]
            refine ⟨_, ι3, F3, δ1, s2, R3, E2.mono g3, ?_⟩
            dsimp only at post'
            cases qe : e δ1 s2 with
            | stuck => rw [qe] at post'; exact post'.elim
            | exc k s3 => rw [qe] at post'; exact post'.elim
            | ok z s3 =>
              rw [qe] at post'
              intro v H4 ι4 F4 g4 R4 rv
              dsimp only at post'
              have ra' := ra.mono ((g2.trans g3).trans g4)
              split at post'
              · rename_i hl
                refine ⟨vacc, R4.pro _ _ upd_same, by rw [← ra.len]; exact lim_lt (Nat.le_of_lt hl), ι4, F4, s3, acc ++ [z], vacc ++ [v], ((g'.trans g2).trans g3).trans g4, ?_, ra'.app (.cons rv .nil), post'.mono ((g2.trans g3).trans g4)⟩
                have := R4.setP (p := L) upd_same (.lst (vacc ++ [v]))
                rw [upd_upd] at this
                exact this
              · exact post'.elim
  · rintro H' ⟨ι', F', s', acc, vacc, g', R', ra, post'⟩
    rw [List.drop_length] at post'
    have R2 := R'.thaw hPL
    have gr : Grow F' ι' (upd F' L (.lst vacc)) ι' := grow_new (R'.dis L _ upd_same) _
    refine post' (.ref L) H' ι' _ gr R2 ?_
    unfold Rp
    exact ⟨L, vacc, rfl, upd_same, ra.mono gr⟩
theorem back_L {Q : VK} {E : Nat → Hp → Prop} {P F : Hp} {ι : List Addr} {h : Option (Nat × List D)} {r : Res D} (hn : h = none) (post : Post T P (Rp T) Q E F ι (backO h r)) : Post T P (Rp T) Q E F ι r := by
  subst hn
  exact post
theorem d_lcA {elt tg iter : Expr} {ifs : List Expr} {scope : Scope} {own : List (Str × Nat)} {pos : Pos} {f : DE} {ws : List Nat} {t : DTg} {c : DT} {e : DE} (hN : X.N.Nodup) (hi : PDe T X iter f) (ok : BlkOk X.N X.env.scope scope own)
    (hg : ∀ (s : Shared) (H : Hp) (C : Addr) (cl : List (Str × Addr)) (fp : List Addr), PDg T (Blk X scope s H C cl fp) tg ws t) (ht : ∀ (s : Shared) (H : Hp) (C : Addr) (cl : List (Str × Addr)) (fp : List Addr), PDts T (Blk X scope s H C cl fp) ifs c)
    (he : ∀ (s : Shared) (H : Hp) (C : Addr) (cl : List (Str × Addr)) (fp : List Addr), PDe T (Blk X scope s H C cl fp) elt e) (hs : ∀ i ∈ ws, i ∈ own.map (·.2) := by decide) (hf : ∀ x, foldedSetIterable iter X.env x = pure x := by intro _; rfl) (hc : X.calm = true := by rfl) (hK : X.K = T.K := by rfl) :
    PDe T X (.ListComp elt [⟨tg, iter, ifs, 0⟩] scope pos) (dLcA f t c e (own.map (·.2))) := fun pn xe W tk => by
  obtain ⟨t1, p1, d1⟩ := hi pn xe W tk
  have hK' : (X.tr pn xe).K = T.K := hK
  have wi : PI (X.tr pn xe) tg iter (fun σ H R => (iList T.K t1 σ H R ∨ iTup T.K t1 σ H R) ∨ iStr t1 σ H R) := by
    have := PI.or (PI.or (pi_list (X := X.tr pn xe) (tg := tg) p1) (pi_tup p1)) (pi_str p1)
    rw [hK'] at this
    exact this
  refine ⟨_, pe_lc (X := X.tr pn xe) (own := own) hc hN wi ok (g := canT T ws t) (tt := canE T eqR W0 c) (te := canE T (Rp T) W0 e) (fun s H C cl fp => ?_) (fun s H C cl fp => ?_) (fun s H C cl fp => ?_) hf, fun σ H P ι F δ s Q R E post => ?_⟩
  · obtain ⟨g, p, d⟩ := hg s H C cl fp [] (fun _ _ => False)
    exact PG.weak p fun v σ H Q q => d.can q
  · obtain ⟨g, p, d⟩ := ht s H C cl fp
    exact PTs.weak p fun σ H Q q => d.can q
  · obtain ⟨g, p, d⟩ := he s H C cl fp [] (fun _ _ => False) W0 takes0
    exact PE.weak p fun σ H Q q => d.can q
  have post0 : Post T P (Rp T) Q (fun c H' => W (.ref (T.ca c)) none σ H') F ι ((f δ s).bind fun x s1 => match itCel x s1 with
    | some (ds, s2, h) => backO h (lcL t c e (wipeE δ (own.map (·.2))) ds [] s2)
    | none => .stuck) := post
  cases ef : f δ s with
  | stuck => rw [ef] at post0; exact post0.elim
  | exc k s1 =>
    rw [ef] at post0
    refine .inl (.inl ?_)
    show t1 σ H _
    refine d1 σ H P ι F δ s _ R E ?_
    rw [ef]
    exact fun H' ι' F' g R' => post0 H' ι' F' g R'
  | ok x s1 =>
    rw [ef] at post0
    have run : ∀ {G : V → Hp → Prop}, (∀ v H' ι' F', Grow F ι F' ι' → RelH T P ι' F' s1 H' → Rp T F' ι' x v → G v H') → t1 σ H G := fun {G} h => by
      refine d1 σ H P ι F δ s G R E ?_
      rw [ef]
      exact h
    cases x with
    | lst xs =>
      refine .inl (.inl ?_)
      show t1 σ H _
      refine run fun v H1 ι1 F1 g1 R1 r1 => ?_
      unfold Rp at r1
      obtain ⟨a, vs, rfl, h1, h2⟩ := r1
      exact ⟨a, rfl, ⟨vs, SqL.of (R1.sub _ _ h1)⟩, lc_run hs ((walks_list (SqL.of h1) h2).toP P) R1 (E.mono g1) (Post.mono g1 post0)⟩
    | scr ns =>
      refine .inl (.inl ?_)
      show t1 σ H _
      refine run fun v H1 ι1 F1 g1 R1 r1 => ?_
      unfold Rp at r1
      obtain ⟨a, rfl, h1⟩ := r1
      exact ⟨a, rfl, ⟨_, sql_mono R1.sub h1⟩, lc_run hs ((walks_list h1 (rps_ints ns)).toP P) R1 (E.mono g1) (Post.mono g1 post0)⟩
    | tup xs =>
      refine .inl (.inr ?_)
      show t1 σ H _
      refine run fun v H1 ι1 F1 g1 R1 r1 => ?_
      obtain ⟨a, vs, rfl, h1, h0, h2⟩ := tp_of R1 r1
      exact ⟨a, rfl, ⟨vs, SqT.of h1⟩, lc_run hs ((walks_tup h0 h2).toP P) R1 (E.mono g1) (Post.mono g1 post0)⟩
    | str z =>
      refine .inr ?_
      show t1 σ H _
      refine run fun v H1 ι1 F1 g1 R1 r1 => ?_
      unfold Rp at r1
      exact ⟨S z, r1, lc_run hs ((walks_str z).toP P) R1 (E.mono g1) (Post.mono g1 post0)⟩
    | loc n =>
      refine .inl (.inl ?_)
      show t1 σ H _
      refine run fun v H1 ι1 F1 g1 R1 r1 => ?_
      have post1 : Post T P (Rp T) Q (fun c H' => W (.ref (T.ca c)) none σ H') F ι (match itCel (.loc n) s1 with
        | some (ds, s2, h) => backO h (lcL t c e (wipeE δ (own.map (·.2))) ds [] s2)
        | none => .stuck) := post0
      unfold Rp at r1
      obtain ⟨a, e1, rfl⟩ := r1
      unfold itCel at post1
      dsimp only at post1
      cases hs1 : s1[n]? with
      | none => rw [hs1] at post1; exact post1.elim
      | some cl =>
        rw [hs1] at post1
        cases cl with
        | lst xs =>
          obtain ⟨vs, h1, h2, h3, h4, R2⟩ := R1.hold hs1 e1
          exact ⟨a, rfl, ⟨vs, SqL.of h1⟩, lc_run hs (walksP_cell (P := upd P a (.lst vs)) upd_same h2) R2 (E.mono g1) (post_back h4 e1 h2 (Post.mono g1 post1))⟩
        | _ => exact post1.elim
    | _ => exact post0.elim
end
end Mp
/-! # MpN -/
namespace Mp
open PySem PySem.Spec PyProof.Rows L2
/-! ## defs, wherever they stand -/
structure Okd (T : Tb) (P : Program) (w : World) (mg : Str → Option Value) (base : Heap) (f : Addr) (k n : Nat) (φ : List D → Sto → Res D) : Prop where
  ex : ∃ (fd : FuncData) (ps : List Str), PySem.W.keepIn T.K (.ref f) = true ∧ Binds T.K fd ps [] ∧ FnOk P w T.K mg base (L2.CX P w) k f fd ps (spD T n φ)
section
variable {T : Tb} {P : Program} {w : World} {mg : Str → Option Value} {base : Heap} {f : Addr} {k n : Nat} {φ : List D → Sto → Res D}
theorem Okd.cl {x : Str} (h : Okd T P w mg base f k n φ) (g : mg x = some (.ref f)) : Cl T P w mg base x k n φ := by
  obtain ⟨fd, ps, h1, h2, h3⟩ := h.ex
  exact ⟨f, fd, ps, g, h1, h2, h3⟩
theorem Okd.mc {c : Nat} {m : Str} (h : Okd T P w mg base f k n φ) (hc : Cls T.K (T.ca c)) (hm : Meth T.K (T.ca c) m f) : Mc T P w mg base c m k n φ := by
  obtain ⟨fd, ps, h1, h2, h3⟩ := h.ex
  exact ⟨f, fd, ps, hc, hm, h2, h3⟩
theorem Okd.mkr {c : Nat} {x : Str} (h : Okd T P w mg base f k n φ) (hm : Mk T.K (T.ca c) f) (g : mg x = some (.ref (T.ca c))) : Mkc T P w mg base c x k n φ := by
  obtain ⟨fd, ps, h1, h2, h3⟩ := h.ex
  exact ⟨f, fd, ps, hm, g, h2, h3⟩
/-- what tells nothing is kept by every def -/
theorem fn_stuck {fd : FuncData} {ps : List Str} {CX : CXT} {K : PySem.W.Frag} : FnOk P w K mg base CX k f fd ps (spD T n fun _ _ => .stuck) := by
  have no : ∀ {vs H Q E}, spD T n (fun _ _ => .stuck) vs H Q E → False := fun {vs H Q E} h => by
    obtain ⟨_, _, _, _, _, _, _, _, post⟩ := h
    exact post
  exact ⟨fun _ _ _ _ h => (no h).elim, fun _ _ _ _ _ _ _ _ _ _ _ _ _ h => (no h).elim⟩
theorem Okd.zero {fd : FuncData} {ps : List Str} (h1 : PySem.W.keepIn T.K (.ref f) = true) (h2 : Binds T.K fd ps []) : Okd T P w mg base f k n fun _ _ => .stuck := ⟨fd, ps, h1, h2, fn_stuck⟩
end
end Mp
/-! # MpU -/
namespace Mp
open PySem PySem.Spec L2
/-! ## rows for objects, built-ins more -/
section
variable {δ : Env} {s : Sto}
@[simp] theorem obOf_obj {c : Nat} {ns : List Nat} {vs : List D} : obOf s (.obj c ns vs) = some (c, ns, vs) := rfl
@[simp] theorem obOf_loc {n : Nat} : obOf s (.loc n) = match s[n]? with
    | some (.obj c ns vs) => some (c, ns, vs)
    | _ => none := rfl
@[simp] theorem dFld_eq {cs : List Nat} {nF i : Nat} {f : DE} : dFld cs nF i f δ s = (f δ s).bind fun x s1 => match obOf s1 x with
  | some (c, ns, vs) => if (decide (c ∈ cs) && okN nF ns) = true then match lkF i ns vs with
    | some d => .ok d s1
    | none => .stuck
    else .stuck
  | none => .stuck := rfl
theorem dMeth_eq {nF : Nat} {tbl : List (Nat × (List D → Sto → Res D))} {f : DE} {fa : DA} : dMeth nF tbl f fa δ s = (f δ s).bind fun x s1 => match obOf s1 x with
  | some (c, ns, _) => if okN nF ns = true then match tbl.lookup c with
    | some φ => (fa δ s1).bind fun ds s2 => φ (x :: ds) s2
    | none => .stuck
    else .stuck
  | none => .stuck := rfl
@[simp] theorem sFldS_eq {cs : List Nat} {nF i : Nat} {fv fo : DE} : sFldS cs nF i fv fo δ s = (fv δ s).out δ fun d s1 => (fo δ s1).out δ fun o s2 => match o with
  | .loc n => match s2[n]? with
    | some (.obj c ns vs) => if (decide (c ∈ cs) && (okN nF ns && decide (ns.length < 1000))) = true then .nx δ (s2.set n (.obj c (putN i ns) (putD i d ns vs))) else .stuck
    | _ => .stuck
  | _ => .stuck := rfl
@[simp] theorem okN_nil {n : Nat} : okN n [] = true := rfl
@[simp] theorem okN_cons {n m : Nat} {ns : List Nat} : okN n (m :: ns) = (decide (m < n) && okN n ns) := rfl
@[simp] theorem lkF_cons {i n : Nat} {ns : List Nat} {v : D} {vs : List D} : lkF i (n :: ns) (v :: vs) = if n = i then some v else lkF i ns vs := rfl
@[simp] theorem lkF_nil {i : Nat} {vs : List D} : lkF i [] vs = none := by cases vs <;> rfl
@[simp] theorem putN_nil {i : Nat} : putN i [] = [i] := rfl
@[simp] theorem putN_cons {i n : Nat} {ns : List Nat} : putN i (n :: ns) = if n = i then n :: ns else n :: putN i ns := rfl
@[simp] theorem putD_nil {i : Nat} {d : D} : putD i d [] [] = [d] := rfl
@[simp] theorem putD_cons {i n : Nat} {ns : List Nat} {d v : D} {vs : List D} : putD i d (n :: ns) (v :: vs) = if n = i then d :: vs else v :: putD i d ns vs := rfl
@[simp] theorem lst_set {c d : Cell} : (s ++ [c]).set s.length d = s ++ [d] := by simp
@[simp] theorem lst_get {c : Cell} : (s ++ [c])[s.length]? = some c := by simp
theorem below_ints {n : Nat} : ∀ xs : List Int, belows n (xs.map D.int) = true
  | [] => rfl
  | x :: xs => by rw [List.map_cons]; unfold belows; rw [below_ints xs]; rfl
theorem below_strs {n : Nat} : ∀ xs : List (List Nat), belows n (xs.map D.str) = true
  | [] => rfl
  | x :: xs => by rw [List.map_cons]; unfold belows; rw [below_strs xs]; rfl
theorem mkOF_ok {c : Nat} {φ : List D → Sto → Res D} {ds : List D} {ns : List Nat} {vs : List D} (h : φ (.loc s.length :: ds) (s ++ [.obj c [] []]) = .ok .non (s ++ [.obj c ns vs])) (hs : s.all (Cell.below s.length) = true) (hv : belows s.length vs = true) : mkOF c φ ds s = .ok (.obj c ns vs) s := by
  unfold mkOF mkO
  rw [h]
  unfold frzO
  dsimp only
  rw [lst_get]
  dsimp only
  have e : (s ++ [Cell.obj c ns vs]).take s.length = s := by simp
  rw [if_pos (by rw [e]; simp only [Bool.and_eq_true, decide_eq_true_eq]; exact ⟨trivial, by simp, hv, hs⟩), e]
theorem mkOF_ex {c k : Nat} {φ : List D → Sto → Res D} {ds : List D} {cl : Cell} (h : φ (.loc s.length :: ds) (s ++ [.obj c [] []]) = .exc k (s ++ [cl])) (hs : s.all (Cell.below s.length) = true) : mkOF c φ ds s = .exc k s := by
  unfold mkOF mkO
  rw [h]
  show cutX s.length k (s ++ [cl]) = _
  unfold cutX
  have e : (s ++ [cl]).take s.length = s := by simp
  rw [if_neg (by simp), if_pos (by rw [e]; simp only [Bool.and_eq_true, decide_eq_true_eq]; exact ⟨by simp, hs⟩), e]
@[simp] theorem dFrz_eq {f : DE} : dFrz f δ s = frzL s.length (f δ s) := rfl
theorem frzL_ok {xs : List D} (hs : s.all (Cell.below s.length) = true) (hv : belows s.length xs = true) : frzL s.length (.ok (.loc s.length) (s ++ [.lst xs])) = .ok (.lst xs) s := by
  unfold frzL
  dsimp only
  rw [lst_get]
  dsimp only
  have e : (s ++ [Cell.lst xs]).take s.length = s := by simp
  rw [if_pos (by rw [e]; simp only [Bool.and_eq_true, decide_eq_true_eq]; exact ⟨trivial, by simp, hv, hs⟩), e]
@[simp] theorem oAddC_lst {a b : List D} : oAddC (.lst a) (.lst b) s = if a.length + b.length ≤ lim then .ok (.loc s.length) (s ++ [.lst (a ++ b)]) else .stuck := rfl
@[simp] theorem intsOf_nil : intsOf [] = some [] := rfl
@[simp] theorem intsOf_int {x : Int} {r : List D} : intsOf (.int x :: r) = (intsOf r).map (x :: ·) := rfl
theorem intsOf_map : ∀ xs : List Int, intsOf (xs.map D.int) = some xs
  | [] => rfl
  | x :: xs => by rw [List.map_cons, intsOf_int, intsOf_map xs]; rfl
@[simp] theorem bSum_lst {xs : List D} : bSum [.lst xs] s = match intsOf xs with
    | some ns => .ok (.int ns.sum) s
    | none => .stuck := rfl
@[simp] theorem bMaxL_lst {xs : List D} : bMaxL [.lst xs] s = match intsOf xs with
    | some ns => if ns ≠ [] then .ok (.int (maxI ns)) s else .stuck
    | none => .stuck := rfl
@[simp] theorem dMaxD_eq {fa fz : DA} : dMaxD fa fz δ s = (fa δ s).bind fun ds s1 => (fz δ s1).bind fun zs s2 => bMaxD ds zs s2 := rfl
@[simp] theorem bMaxD_lst {xs : List D} {d : Int} : bMaxD [.lst xs] [.int d] s = match intsOf xs with
    | some ns => .ok (.int (if ns = [] then d else maxI ns)) s
    | none => .stuck := rfl
@[simp] theorem bList_lst {xs : List D} : bList [.lst xs] s = .ok (.lst xs) s := rfl
@[simp] theorem bList_tup {xs : List D} : bList [.tup xs] s = .ok (.lst xs) s := rfl
@[simp] theorem bList_loc {n : Nat} : bList [.loc n] s = match s[n]? with
    | some (.lst xs) => .ok (.lst xs) s
    | _ => .stuck := by
  unfold bList
  simp only [lqOf_loc]
  cases s[n]? with
  | none => rfl
  | some c => cases c <;> rfl
@[simp] theorem dSortedSet_eq {f : DE} : dSortedSet f δ s = (f δ s).bind fun x s1 => match lqOf s1 x with
  | some xs => match intsOf xs with
    | some ns => if ns.length < 63 then .ok (.lst ((sortI ns).map D.int)) s1 else .stuck
    | none => .stuck
  | none => .stuck := rfl
@[simp] theorem dLcA_eq {f : DE} {t : DTg} {c : DT} {e : DE} {vs : List Nat} : dLcA f t c e vs δ s = (f δ s).bind fun x s1 => match itCel x s1 with
  | some (ds, s2, h) => backO h (lcL t c e (wipeE δ vs) ds [] s2)
  | none => .stuck := rfl
@[simp] theorem itCel_lst {xs : List D} : itCel (.lst xs) s = some (xs, s, none) := rfl
@[simp] theorem itCel_tup {xs : List D} : itCel (.tup xs) s = some (xs, s, none) := rfl
@[simp] theorem itCel_loc {n : Nat} : itCel (.loc n) s = match s[n]? with
    | some (.lst xs) => some (xs, s.set n .dead, some (n, xs))
    | _ => none := rfl
@[simp] theorem backO_none {r : Res D} : backO none r = r := rfl
@[simp] theorem backO_some {n : Nat} {xs : List D} {r : Res D} : backO (some (n, xs)) r = r.back n xs := rfl
@[simp] theorem dListR_eq {f : DE} : dListR f δ s = (f δ s).bind fun x s1 => match x with
  | .int n => if 0 ≤ n ∧ n ≤ 1000 then .ok (.lst (intsD 0 n.toNat)) s1 else .stuck
  | _ => .stuck := rfl
@[simp] theorem mClear_loc {n : Nat} : mClear (.loc n) [] s = match s[n]? with
    | some (.lst _) => .ok .non (s.set n (.lst []))
    | _ => .stuck := rfl
/-! ### isinstance -/
section
variable {parT par cs : List Nat}
theorem iso_cls {x : D} {c d : Nat} {ns : List Nat} {vs : List D} (hd : d ∈ cs) (hx : obOf s x = some (c, ns, vs)) (hc : c ∈ cs) (he : ∀ k, x ≠ .exc k) : bIsO parT par cs [x, .cls d] s = .ok (.bl (ancF par par.length c d)) s := by
  unfold bIsO
  split
  · rename_i k _ h
    cases h
    exact absurd rfl (he k)
  · rename_i h
    cases h
    rw [if_pos hd, hx]
    exact if_pos hc
  · rename_i h1 h2
    exact absurd rfl (h2 _ _)
theorem iso_no {x : D} {d : Nat} {t : String} (hd : d ∈ cs) (hx : obOf s x = none) (ht : tyOf s x = some t) (hk : t ∈ kiTy) : bIsO parT par cs [x, .cls d] s = .ok (.bl false) s := by
  unfold bIsO
  split
  · rename_i h
    cases h
    cases ht
  · rename_i h
    cases h
    rw [if_pos hd, hx]
    dsimp only
    rw [ht]
    exact if_pos hk
  · rename_i h1 h2
    exact absurd rfl (h2 _ _)
theorem iso_ty {x : D} {n t : String} {b : Bool} (ht : tyOf s x = some t) (hk : kitB t n = some b) : bIsO parT par cs [x, .ty n] s = .ok (.bl b) s := by
  unfold bIsO
  split
  · rename_i h
    cases h
    cases ht
  · rename_i h
    cases h
  · unfold bIsA
    split
    · rename_i h; cases h
    · rename_i h; cases h; cases ht
    · rename_i h
      cases h
      rw [ht]
      dsimp only
      rw [hk]
    · rename_i h1 h2 h3
      exact absurd rfl (h3 _ _)
theorem iso_x {k : Nat} {c : D} : bIsO parT par cs [.exc k, c] s = bIsA parT [.exc k, c] s := rfl
end
theorem kit_ii : kitB "int" "int" = some true := by decide +kernel
theorem kit_ib : kitB "int" "bool" = some false := by decide +kernel
theorem kit_bb : kitB "bool" "bool" = some true := by decide +kernel
theorem kit_bi : kitB "bool" "int" = some true := by decide +kernel
theorem kit_ll : kitB "list" "list" = some true := by decide +kernel
theorem kit_si : kitB "str" "int" = some false := by decide +kernel
theorem kit_ni : kitB "NoneType" "int" = some false := by decide +kernel
theorem kit_li : kitB "list" "int" = some false := by decide +kernel
theorem kit_ti : kitB "tuple" "int" = some false := by decide +kernel
theorem kit_di : kitB "dict" "int" = some false := by decide +kernel
theorem kit_tl : kitB "tuple" "list" = some false := by decide +kernel
theorem kit_nl : kitB "NoneType" "list" = some false := by decide +kernel
theorem kit_sl : kitB "str" "list" = some false := by decide +kernel
theorem kit_il : kitB "int" "list" = some false := by decide +kernel
theorem kit_bl : kitB "bool" "list" = some false := by decide +kernel
theorem kit_dl : kitB "dict" "list" = some false := by decide +kernel
theorem kit_ss : kitB "str" "str" = some true := by decide +kernel
theorem kit_ns : kitB "NoneType" "str" = some false := by decide +kernel
theorem kit_is : kitB "int" "str" = some false := by decide +kernel
theorem kit_bs : kitB "bool" "str" = some false := by decide +kernel
theorem kit_ls : kitB "list" "str" = some false := by decide +kernel
theorem kit_ts : kitB "tuple" "str" = some false := by decide +kernel
theorem kit_ds : kitB "dict" "str" = some false := by decide +kernel
@[simp] theorem tyOf_non : tyOf s .non = some "NoneType" := rfl
@[simp] theorem tyOf_bl {b : Bool} : tyOf s (.bl b) = some "bool" := rfl
@[simp] theorem tyOf_int {b : Int} : tyOf s (.int b) = some "int" := rfl
@[simp] theorem tyOf_str {b : List Nat} : tyOf s (.str b) = some "str" := rfl
@[simp] theorem tyOf_lst {b : List D} : tyOf s (.lst b) = some "list" := rfl
@[simp] theorem tyOf_tup {b : List D} : tyOf s (.tup b) = some "tuple" := rfl
@[simp] theorem tyOf_dct {ks b : List D} : tyOf s (.dct ks b) = some "dict" := rfl
/-! ### membership, menus -/
theorem any_int {x : Int} : ∀ xs : List Int, ((xs.map D.int).any fun y => eqF y (.int x)) = decide (x ∈ xs)
  | [] => by simp
  | y :: ys => by
    rw [List.map_cons, List.any_cons, any_int ys]
    show ((y == x) || _) = _
    by_cases h : y = x
    · simp [h]
    · have : ¬ x = y := fun z => h z.symm
      simp [h, this]
theorem flat_ints : ∀ xs : List Int, (xs.map D.int).all flatD = true
  | [] => rfl
  | x :: xs => by rw [List.map_cons, List.all_cons, flat_ints xs]; rfl
@[simp high] theorem oIn_ints {neg : Bool} {x : Int} {xs : List Int} : oInA neg (.int x) (.lst (xs.map D.int)) s = .ok (.bl (neg != decide (x ∈ xs))) s := by
  rw [oInA_lst, if_pos (by rw [flat_ints]; rfl), any_int]
theorem strsOf_map : ∀ xs : List (List Nat), strsOf (xs.map D.str) = some xs
  | [] => rfl
  | x :: xs => by
    show (strsOf (xs.map D.str)).map (x :: ·) = _
    rw [strsOf_map xs]; rfl
theorem un_S (x : List Nat) : un (S x) = x := by simp [un, S]
theorem mJoin_ok {a : List Nat} {ys : List (List Nat)} (h : (ys.map List.length).sum + ys.length * a.length ≤ lim) : mJoin (.str a) [.lst (ys.map D.str)] s = .ok (.str (TL.joinL a ys)) s := by
  unfold mJoin
  simp only [lqOf_lst, Option.some_or, strsOf_map]
  rw [if_pos h]
  have e : Txt.join (S a) (ys.map S) = S (TL.joinL a ys) := SX.join_S a ys
  rw [e, un_S]
theorem eqDs_self : ∀ ws : List (List Nat), eqDs (ws.map D.str) (ws.map D.str) = true
  | [] => rfl
  | w :: ws => by rw [List.map_cons, eqDs_cc, eqDs_self ws, eqD_str]; simp
theorem datDs_strs {n : Nat} : ∀ {ws : List (List Nat)}, (∀ w ∈ ws, okS w = true) → datDs n (ws.map D.str) = true
  | [], _ => by simp
  | w :: ws, h => by
    rw [List.map_cons, datDs_cons, datDs_strs fun v hv => h v (List.mem_cons_of_mem _ hv), datD_str, h w List.mem_cons_self]
    rfl
theorem datDs_ints {n : Nat} : ∀ xs : List Int, datDs n (xs.map D.int) = true
  | [] => by simp
  | x :: xs => by rw [List.map_cons, datDs_cons, datDs_ints xs, datD_int]; rfl
theorem eqDs_ints : ∀ xs ys : List Int, eqDs (xs.map D.int) (ys.map D.int) = (xs == ys)
  | [], [] => rfl
  | [], y :: ys => rfl
  | x :: xs, [] => rfl
  | x :: xs, y :: ys => by rw [List.map_cons, List.map_cons, eqDs_cc, eqDs_ints xs ys, eqD_int]; rfl
theorem bAll_true {xs : List D} (h : ∀ x ∈ xs, x = .bl true) : bAll [.lst xs] s = .ok (.bl true) s := by
  have e : boolsOf xs = some (xs.map fun _ => true) := by
    induction xs with
    | nil => rfl
    | cons x xs ih =>
      rw [h x List.mem_cons_self]
      show (boolsOf xs).map (true :: ·) = _
      rw [ih fun y hy => h y (List.mem_cons_of_mem _ hy)]
      rfl
  unfold bAll bAnyAll
  simp only [lqOf_lst, e]
  simp
end
end Mp
/-! # MpV -/
namespace PySem.SeqAt
open AutoSeq1 (wpAny_loadPart')
open MeetsSeq MeetsSeq2 MeetsSeq3 SeqRoads2
section
variable {prog : Program} {w : World}
theorem mp_list_neIn (l b : Addr) (items items2 : Array Value) (n n2 : Nat) (dd dd2 : Option Addr) (sl sl2 : Array (Option Value)) (hsz : items.size ≠ items2.size) :
    MeetsIn prog w (Builtin.«list.__eq__» ⟨[.ref l, .ref b], []⟩)
      (fun A R s => s.heap.get? l = some { cls := .type "list", dict := dd, data := .seq items n, slots := sl } ∧ s.heap.get? b = some { cls := .type "list", dict := dd2, data := .seq items2 n2, slots := sl2 } ∧
        R (.ok (.ret (.bool false))) s) := by
  intro A R s h
  obtain ⟨hp, g, d, tk, os⟩ := s; obtain ⟨hl, hb, h⟩ := h
  have f3 := AutoSeq1.sub_list_list
  have hne : (items.size != items2.size) = true := by simpa using hsz
  wp_walk using wpAny_loadPart' hl, wpAny_loadPart' hb
  exact h
theorem mp_rc_ne {A : Around} {s : Shared} {l b : Addr} {items items2 : Array Value} (hl : s.heap.IsList l items) (hb : s.heap.IsList b items2) (hsz : items.size ≠ items2.size) (hu : A.units < cLine)
    (E Q : Value → Shared → Prop) (h : Q (.bool false) s) : wpAny (model prog w) A (richCompare .Eq (.ref l) (.ref b)) Q E s := by
  obtain ⟨⟨cls, dd, data, sl⟩, ho, hc, n, hd⟩ := id hl
  obtain ⟨⟨cls2, dd2, data2, sl2⟩, ho2, hc2, n2, hd2⟩ := id hb
  simp only at hc hd hc2 hd2
  subst hc hd hc2 hd2
  have ta : s.TypeIs (.ref l) "list" := ⟨_, ho, rfl⟩
  have tb : s.TypeIs (.ref b) "list" := ⟨_, ho2, rfl⟩
  exact wpAny_richCompare_same_room (op := .Eq) ta tb F.slot_list_eq (call_meetsIn F.slot_list_eq ta F.entry_list_eq (F.args_list_eq_2 _ _) (mp_list_neIn l b items items2 n n2 dd dd2 sl sl2 hsz)
    ⟨ho, ho2, show Value.bool false ≠ Value.notImplemented ∧ Q (.bool false) s from ⟨(fun x => nomatch x), h⟩⟩) hu
theorem mp_dict_int (l : Addr) (o : Obj) (hc : o.cls = .type "dict") (b : Int) (u : Tok) :
    Meets (Builtin.«dict.__eq__» ⟨[.ref l, .int b u], []⟩) (fun _ R s => s.heap.get? l = some o ∧ R (.ok (.ret .notImplemented)) s) :=
  .of_wp fun prog w A R s h => by
    obtain ⟨hp, g, d, tk, os⟩ := s; obtain ⟨hl, h⟩ := h
    have f1 := F.sub_int_dict
    obtain ⟨oc, od, odt, osl⟩ := o
    simp only at hc
    subst hc
    wp_walk using wpAny_loadPart' hl
    exact ⟨_, rfl, h⟩
theorem mp_int_dict (l : Addr) (od : Option Addr) (es : Array DictEntry) (ep : Nat) (osl : Array (Option Value)) (b : Int) (u : Tok) :
    Meets (Builtin.«int.__eq__» ⟨[.int b u, .ref l], []⟩) (fun _ R s => s.heap.get? l = some ⟨.type "dict", od, .dict es ep, osl⟩ ∧ R (.ok (.ret .notImplemented)) s) :=
  .of_wp fun prog w A R s h => by
    obtain ⟨hp, g, d, tk, os⟩ := s; obtain ⟨hl, h⟩ := h
    wp_walk using wpAny_loadPart' hl, wpAny_load hl
    exact ⟨_, rfl, h⟩
theorem mp_eq_di {A : Around} {s : Shared} {l : Addr} {o : Obj} (b : Int) (u : Tok) {es : Array DictEntry} {ep : Nat} (ho : s.heap.get? l = some o) (hc : o.cls = .type "dict") (hd : o.data = .dict es ep) (hu : A.units < cLine) : EqAt A s (.ref l) (.int b u) false := fun prog w E Q h => by
  obtain ⟨oc, od, odt, osl⟩ := o
  simp only at hc hd
  subst hc hd
  unfold eqBool
  refine wpAny_holding ?_
  refine wpAny_ite_split (fun hab => absurd (eq_of_beq hab) nofun) (fun _ => ?_)
  refine wpAny_bind (rc_eq_decline_or (k := false) ⟨_, ho, rfl⟩ (typeIs_int s b u) (by decide) F.sub_int_dict F.slot_dict_eq F.slot_int_eq_refl
    (fun _ hq => call_meets F.slot_dict_eq ⟨_, ho, rfl⟩ F.entry_dict_eq (F.args_dict_eq_2 _ _) (mp_dict_int l _ rfl b u) ⟨ho, hq⟩)
    (fun _ hq => call_meets F.slot_int_eq_refl (typeIs_int s b u) F.entry_int_eq (F.args_int_eq_2 _ _) (mp_int_dict l od es ep osl b u) ⟨ho, hq⟩)
    (fun _ hq => wpAny_of_eq (rfl : isSame (.ref l) (.int b u) = pure false) hq) (.inr hu) (wpAny_truthy_bool h))
end
end PySem.SeqAt
namespace Mp
open PySem PySem.Spec PyProof.Rows L2
/-! ## == of lists, empty dicts and whole numbers among -/
/-- an item of the one list and its like of the other -/
def ElX (K : PySem.W.Frag) (H : Hp) (x y : V) (b : Bool) : Prop := (∃ i j, x = .int i ∧ y = .int j ∧ b = (i == j)) ∨ (∃ d kvs j, x = .ref d ∧ Rd H d (.dK kvs) ∧ y = .int j ∧ b = false)
inductive ElsX (K : PySem.W.Frag) (H : Hp) : List V → List V → List Bool → Prop
  | nil : ElsX K H [] [] []
  | cons {x y : V} {b : Bool} {xs ys : List V} {bs : List Bool} (h : ElX K H x y b) (r : ElsX K H xs ys bs) : ElsX K H (x :: xs) (y :: ys) (b :: bs)
def rEqX (K : PySem.W.Frag) (neg : Bool) : R2 := fun x y H Q => ∃ l b xs ys, x = .ref l ∧ y = .ref b ∧ SqL K H l xs ∧ SqL K H b ys ∧
  ((xs.length ≠ ys.length ∧ Q (.bl neg) H) ∨ ∃ bs, ElsX K H xs ys bs ∧ Q (.bl (neg != bs.all id)) H)
section
variable {X : Cx} {pins : List (Addr × Obj)} {σ : L2.St} {H : Hp} {s : Shared}
theorem ElsX.at {K : PySem.W.Frag} : ∀ {xs ys : List V} {bs : List Bool}, ElsX K H xs ys bs → ∀ j, j < xs.length → ∃ x y b, xs[j]? = some x ∧ ys[j]? = some y ∧ bs[j]? = some b ∧ ElX K H x y b
  | _, _, _, .nil, j, hj => by simp at hj
  | _, _, _, .cons h r, 0, _ => ⟨_, _, _, rfl, rfl, rfl, h⟩
  | _, _, _, .cons h r, j + 1, hj => by
    obtain ⟨x, y, b, h1, h2, h3, h4⟩ := r.at j (by simpa using hj)
    exact ⟨x, y, b, by simpa using h1, by simpa using h2, by simpa using h3, h4⟩
theorem ElsX.len {K : PySem.W.Frag} : ∀ {xs ys : List V} {bs : List Bool}, ElsX K H xs ys bs → xs.length = ys.length ∧ bs.length = xs.length
  | _, _, _, .nil => ⟨rfl, rfl⟩
  | _, _, _, .cons h r => by simp [r.len.1, r.len.2]
theorem all_range {bs : List Bool} : (List.range bs.length).all (fun j => bs.getD j true) = bs.all id := by
  rw [Bool.eq_iff_iff, List.all_eq_true, List.all_eq_true]
  constructor
  · intro h b hb
    obtain ⟨j, hj, e⟩ := List.getElem_of_mem hb
    have := h j (List.mem_range.mpr hj)
    rw [List.getD_eq_getElem?_getD, List.getElem?_eq_getElem hj, e] at this
    exact this
  · intro h j hj
    have hj' := List.mem_range.mp hj
    rw [List.getD_eq_getElem?_getD, List.getElem?_eq_getElem hj']
    exact h _ (List.getElem_mem hj')
theorem op_eqX (hu : X.A.units + 64 < cLine) : OpR X (compareOp .Eq) (rEqX X.K false) := by
  intro pins s σ H x y v u Q I rx ry h
  obtain ⟨l, b, xs, ys, rfl, rfl, hx, hy, h⟩ := h
  cases (show v = Value.ref l from rx)
  cases (show u = Value.ref b from ry)
  obtain ⟨its, r1, p1, z1⟩ := I.list hx
  obtain ⟨jts, r2, p2, z2⟩ := I.list hy
  show wpAny _ _ (richCompare .Eq (.ref l) (.ref b)) _ _ _
  rcases h with ⟨hne, q⟩ | ⟨bs, hE, q⟩
  · exact SeqAt.mp_rc_ne p1.isList p2.isList (by simp; rw [← r1.length, ← r2.length]; exact hne) (by omega) _ _ ⟨.bl false, H, I, rfl, q⟩
  · obtain ⟨e1, e2⟩ := hE.len
    refine SeqAt.rcP_lists (e := fun j => bs.getD j true) p1.isList p2.isList (by simp; rw [← r1.length, ← r2.length]; exact e1) (by omega) (fun j h1 h2 => ?_) _ _ ?_
    · have hj : j < xs.length := by rw [r1.length]; simpa using h1
      obtain ⟨a, c, k, q1, q2, q3, q4⟩ := hE.at j hj
      obtain ⟨v1, w1, rv1⟩ := r1.get q1
      obtain ⟨v2, w2, rv2⟩ := r2.get q2
      have f1 : its.toArray[j] = v1 := by
        rw [List.getElem?_eq_some_iff] at w1
        obtain ⟨_, w1⟩ := w1
        simpa using w1
      have f2 : jts.toArray[j] = v2 := by
        rw [List.getElem?_eq_some_iff] at w2
        obtain ⟨_, w2⟩ := w2
        simpa using w2
      rw [f1, f2]
      have f3 : bs.getD j true = k := by rw [List.getD_eq_getElem?_getD, q3]; rfl
      rw [f3]
      rcases q4 with ⟨i, i2, rfl, rfl, rfl⟩ | ⟨d, kvs, i2, rfl, hd, rfl, rfl⟩
      · obtain ⟨t, rfl⟩ := rv1
        obtain ⟨t2, rfl⟩ := rv2
        exact (SeqAt.EqAt.int_int i t i2 t2).eqP
      · cases (show v1 = Value.ref d from rv1)
        obtain ⟨t2, rfl⟩ := rv2
        obtain ⟨_, _, vs, _, o, es, ep, g1, g2, g3, _⟩ := dk_rd I.hok hd
        exact (SeqAt.mp_eq_di i2 t2 g1 g2.1 g3 (by show X.A.units + 1 < cLine; omega)).eqP
    · have e3 : its.toArray.size = bs.length := by simp; rw [← r1.length]; exact e2.symm
      rw [e3, all_range]
      exact ⟨.bl _, H, I, rfl, by simpa using q⟩
end
def elX : D → D → Option Bool
  | .int a, .int b => some (a == b)
  | .dct _ _, .int _ => some false
  | _, _ => none
def elsX : List D → List D → Option (List Bool)
  | [], [] => some []
  | x :: xs, y :: ys => match elX x y, elsX xs ys with
    | some b, some bs => some (b :: bs)
    | _, _ => none
  | _, _ => none
def oEqX : DOp := fun x y s => match lqOf s x, lqOf s y with
  | some xs, some ys => if xs.length ≠ ys.length then .ok (.bl false) s else match elsX xs ys with
    | some bs => .ok (.bl (bs.all id)) s
    | none => .stuck
  | _, _ => .stuck
def oEqB : DOp := fun x y s => match oEqG false x y s with
  | .stuck => oEqX x y s
  | r => r
def rEqB (K : PySem.W.Frag) : R2 := orR (rEqA K) (rEqX K false)
theorem op_eqB {X : Cx} (hu : X.A.units + 64 < cLine) : OpR X (compareOp .Eq) (rEqB X.K) := OpR.or (op_eqA hu) (op_eqX hu)
section
variable {T : Tb}
theorem elX_ok {P : Hp} {ι : List Addr} {F : Hp} {s : Sto} {H : Hp} (R : RelH T P ι F s H) {x y : D} {v u : V} {b : Bool} (rx : Rp T F ι x v) (ry : Rp T F ι y u) (h : elX x y = some b) : ElX T.K H v u b := by
  unfold elX at h
  split at h
  · cases h
    unfold Rp at rx ry
    exact .inl ⟨_, _, rx, ry, rfl⟩
  · cases h
    unfold Rp at rx ry
    obtain ⟨a, kvs, e, q, _⟩ := rx
    exact .inr ⟨a, kvs, _, e, rd_mono R.sub q, ry, rfl⟩
  · cases h
theorem elsX_ok {P : Hp} {ι : List Addr} {F : Hp} {s : Sto} {H : Hp} (R : RelH T P ι F s H) : ∀ {xs ys : List D} {vs us : List V} {bs : List Bool}, Rps T F ι xs vs → Rps T F ι ys us → elsX xs ys = some bs → ElsX T.K H vs us bs
  | [], [], vs, us, bs, rx, ry, h => by unfold Rps at rx ry; subst rx ry; cases h; exact .nil
  | [], y :: ys, vs, us, bs, rx, ry, h => by cases h
  | x :: xs, [], vs, us, bs, rx, ry, h => by cases h
  | x :: xs, y :: ys, vs, us, bs, rx, ry, h => by
    unfold Rps at rx ry
    obtain ⟨v, vs, rfl, x1, x2⟩ := rx
    obtain ⟨u, us, rfl, y1, y2⟩ := ry
    unfold elsX at h
    split at h
    · rename_i b bs' h1 h2
      cases h
      exact .cons (elX_ok R x1 y1 h1) (elsX_ok R x2 y2 h2)
    · cases h
theorem do_eqB : DenOp T (rEqB T.K) oEqB := by
  intro x y dx dy H P ι F s Q E R rx ry post
  unfold oEqB at post
  cases e : oEqG false dx dy s with
  | ok d s1 => rw [e] at post; exact .inl (do_eq x y dx dy H P ι F s Q E R rx ry (by show Post T P (Rp T) Q E F ι (oEqG false dx dy s); rw [e]; exact post))
  | exc k s1 => rw [e] at post; exact .inl (do_eq x y dx dy H P ι F s Q E R rx ry (by show Post T P (Rp T) Q E F ι (oEqG false dx dy s); rw [e]; exact post))
  | stuck =>
    rw [e] at post
    have post1 : Post T P (Rp T) Q E F ι (match lqOf s dx, lqOf s dy with
      | some xs, some ys => if xs.length ≠ ys.length then .ok (.bl false) s else match elsX xs ys with
        | some bs => .ok (.bl (bs.all id)) s
        | none => .stuck
      | _, _ => .stuck) := post
    refine .inr ?_
    split at post1
    · rename_i xs ys h1 h2
      obtain ⟨a, vs, rfl, q1, r1⟩ := lq_of R rx h1
      obtain ⟨b, us, rfl, q2, r2⟩ := lq_of R ry h2
      split at post1
      · rename_i hne
        exact ⟨a, b, vs, us, rfl, rfl, q1, q2, .inl ⟨by rw [← r1.len, ← r2.len]; exact hne, post1.here R (by unfold Rp; rfl)⟩⟩
      · split at post1
        · rename_i bs hb
          refine ⟨a, b, vs, us, rfl, rfl, q1, q2, .inr ⟨bs, elsX_ok R r1 r2 hb, ?_⟩⟩
          simp only [Bool.false_bne]
          exact post1.here R (by unfold Rp; rfl)
        · exact post1.elim
    · exact post1.elim
end
end Mp
/-! # MpW -/
namespace Mp
open PySem PySem.Spec PyProof.Rows L2
/-! ## defs with defaults -/
section
variable {T : Tb} {P : Program} {w : World} {mg : Str → Option Value} {base : Heap}
/-- a def that may be called without its last arguments -/
structure Cld (T : Tb) (P : Program) (w : World) (mg : Str → Option Value) (base : Heap) (x : Str) (k n : Nat) (φ : List D → Sto → Res D) (dd : List D) : Prop where
  ex : ∃ (f : Addr) (fd : FuncData) (ps : List Str) (ds : List Value) (dvs : List V), mg x = some (.ref f) ∧ PySem.W.keepIn T.K (.ref f) = true ∧ Binds T.K fd ps ds ∧ Vals dvs ds ∧ (∀ F ι, Rps T F ι dd dvs) ∧ FnOk P w T.K mg base (L2.CX P w) k f fd ps (spD T n φ)
theorem dfl_all {x qual : Str} {params : Arguments} {body : List Stmt} {scope : Scope} {dvs : List V} {kws : List (Str × V)} {f : Addr} {fd : FuncData} {ps : List Str} {K : PySem.W.Frag} (F : FunD K x qual params body scope dvs kws f fd) (hd : dvs ≠ [])
    (h : ∀ (T : Addr) (kV doc pm : Value) (an : Option Addr) (cdv ct : Value) (us its : List Value), us.length = ps.length → its.length = dvs.length →
      ∃ k, bindArgs (PySem.W.fnOf x qual params body scope (.ref T) kV doc pm an cdv ct) ⟨us, []⟩ = seqItems? (.ref T) >>= k ∧ k (some its.toArray) = pure (ps.zip (us ++ its.drop dvs.length))) : Binds K fd ps [] := by
  obtain ⟨ds, h1, h2⟩ := FunD.binds1 (ps := ps) F ps.length dvs.length hd (by omega) h
  rw [List.drop_length] at h1
  cases h1
  exact h2
variable {X : Cx}
theorem d_callD {x : Str} {p pos : Pos} {e : Expr} {es : List Expr} {k j n : Nat} {φ : List D → Sto → Res D} {fa : DA} {dd : List D} (c : Cld T X.prog X.w X.mg X.base x k n φ dd) (ha : PDa T X (e :: es) fa) (hr : Room j X.A) (hk : k ≤ j := by decide) (hn : (e :: es).length + dd.length = n := by rfl) (hg : Gl X x := by rfl) (hK : X.K = T.K := by rfl)
    (hdb : (x == ("__debug__" : Str)) = false := by decide) (he : starEach (e :: es) X.env = (false, eval e X.env) :: starEach es X.env := by rfl) (hpl : (backTo pos (starEach es X.env)).any (·.1) = false := by rfl) :
    PDe T X (.Call (.Name x p) (e :: es) [] pos) (dCall (fun ds s => φ (ds ++ dd) s) fa) := fun pn xe W tk => by
  obtain ⟨t1, p1, d1⟩ := ha pn xe W tk
  obtain ⟨f, fd, ps, ds0, dvs, h1, h2, h3, h4, h5, h6⟩ := c.ex
  rw [← hK] at h2 h3 h6
  refine ⟨_, pe_callSD (X := X.tr pn xe) h6 (hr.mono hk) hg h1 h2 h3 h4 (fun σ => passAt tk σ) p1 hdb he hpl, fun σ H P ι F δ s Q R E post => ?_⟩
  show t1 σ H _
  refine den_then d1 R E post fun ds vs H1 ι1 F1 s1 g R1 E1 r1 post1 => ?_
  have r5 := h5 F1 ι1
  exact ⟨by rw [List.length_append, r1.2, ← r5.len]; exact hn, P, ι1, F1, s1, ds ++ dd, R1, r1.1.app r5, post1⟩
end
end Mp
/-! # MpX -/
namespace Mp
open PySem PySem.Spec PyProof.Rows L2
/-! ## dicts: values that stay, and cells -/
def dcOf (s : Sto) : D → Option (List D × List D)
  | .dct ks xs => some (ks, xs)
  | .dcL ks xs => some (ks, xs)
  | .loc n => match s[n]? with
    | some (.dct ks xs) => some (ks, xs)
    | _ => none
  | _ => none
def eqK : D → D → Bool
  | .int a, .int b => a == b
  | .str a, .str b => a == b
  | _, _ => false
def keyD : D → Option Key
  | .int a => some (.inl a)
  | .str z => some (.inr (S z))
  | _ => none
/-- what stands at the key -/
def lkD (k : D) : List D → List D → Option D
  | c :: ks, x :: xs => if eqK c k = true then some x else lkD k ks xs
  | _, _ => none
/-- .. in its place, or at the end -/
def repD (k x : D) : List D → List D → List D
  | c :: ks, y :: ys => (if eqK c k = true then x else y) :: repD k x ks ys
  | _, _ => []
def setD (k x : D) (ks xs : List D) : List D := if (ks.any fun c => eqK c k) = true then repD k x ks xs else xs ++ [x]
def setK (k : D) (ks : List D) : List D := if (ks.any fun c => eqK c k) = true then ks else ks ++ [k]
section
variable {T : Tb}
theorem dc_of {P : Hp} {ι : List Addr} {F : Hp} {s : Sto} {H : Hp} {d : D} {v : V} {ks xs : List D} (R : RelH T P ι F s H) (r : Rp T F ι d v) (h : dcOf s d = some (ks, xs)) :
    ∃ a kvs, v = .ref a ∧ Rd H a (.dK kvs) ∧ ks = kvs.map (fun p => kD p.1) ∧ Rps T F ι xs (kvs.map (·.2)) := by
  unfold dcOf at h
  split at h
  · cases h
    unfold Rp at r
    obtain ⟨a, kvs, e, q, k, r⟩ := r
    exact ⟨a, kvs, e, rd_mono R.sub q, k, r⟩
  · cases h
    unfold Rp at r
    obtain ⟨a, o, kvs, e, q, k, r⟩ := r
    exact ⟨a, kvs, e, .inr ⟨o, R.sub _ _ q⟩, k, r⟩
  · unfold Rp at r
    obtain ⟨a, e1, rfl⟩ := r
    split at h
    · rename_i hs
      cases h
      obtain ⟨_, kvs, h1, h2, h3⟩ := R.cell _ _ _ hs e1
      exact ⟨a, kvs, rfl, .inl h1, h2, h3⟩
    · cases h
  · cases h
theorem key_of' {F : Hp} {ι : List Addr} {d : D} {v : V} {k : Key} (r : Rp T F ι d v) (h : keyD d = some k) : v = kV k := by
  unfold keyD at h
  split at h
  · cases h; unfold Rp at r; exact r
  · cases h; unfold Rp at r; exact r
  · cases h
theorem eqK_kD {k j : Key} {d : D} (h : keyD d = some k) : eqK (kD j) d = decide (j = k) := by
  unfold keyD at h
  split at h
  · cases h
    cases j with
    | inl b =>
      rename_i a
      show (b == a) = _
      by_cases e : b = a
      · simp [e]
      · simp [e]
    | inr x => simp [kD, eqK]
  · cases h
    rename_i z
    cases j with
    | inl b => simp [kD, eqK]
    | inr x =>
      show (x.cps.toList == z) = _
      by_cases e : x = S z
      · subst e
        simp [S]
      · have : ¬ x.cps.toList = z := fun q => e (by
          subst q
          cases x
          rfl)
        simp [e, this]
  · cases h
theorem lk_valV {k : Key} {d : D} (hk : keyD d = some k) {F : Hp} {ι : List Addr} : ∀ {kvs : List (Key × V)} {xs : List D}, Rps T F ι xs (kvs.map (·.2)) → (∃ x v, lkD d (kvs.map fun p => kD p.1) xs = some x ∧ valV kvs k = some v ∧ Rp T F ι x v) ∨ (lkD d (kvs.map fun p => kD p.1) xs = none ∧ valV kvs k = none)
  | [], xs, r => by
    right
    constructor
    · rfl
    · rfl
  | p :: kvs, xs, r => by
    rw [List.map_cons] at r
    cases xs with
    | nil => unfold Rps at r; cases r
    | cons x xs =>
      unfold Rps at r
      obtain ⟨v, us, e, r1, r2⟩ := r
      injection e with e1 e2
      subst e1 e2
      rw [List.map_cons]
      unfold lkD
      rw [eqK_kD hk]
      by_cases c : p.1 = k
      · rw [if_pos (by simpa using c), valV_pos c]
        exact .inl ⟨x, p.2, rfl, rfl, r1⟩
      · rw [if_neg (by simpa using c), valV_neg c]
        exact lk_valV hk r2
theorem kD_of {k : Key} {d : D} (hk : keyD d = some k) : d = kD k := by
  unfold keyD at hk
  split at hk
  · cases hk; rfl
  · cases hk; simp [kD, S]
  · cases hk
theorem rep_valV {k : Key} {d x : D} {u : V} (hk : keyD d = some k) {F : Hp} {ι : List Addr} (hu : Rp T F ι x u) : ∀ {kvs : List (Key × V)} {xs : List D}, Rps T F ι xs (kvs.map (·.2)) →
    Rps T F ι (repD d x (kvs.map fun p => kD p.1) xs) ((kvs.map fun kv => if kv.1 = k then (kv.1, u) else kv).map (·.2))
  | [], xs, r => by unfold repD; exact .nil
  | p :: kvs, xs, r => by
    rw [List.map_cons] at r
    cases xs with
    | nil => unfold Rps at r; cases r
    | cons y xs =>
      unfold Rps at r
      obtain ⟨v, us, e, r1, r2⟩ := r
      injection e with e1 e2
      subst e1 e2
      rw [List.map_cons, List.map_cons, List.map_cons]
      unfold repD
      rw [eqK_kD hk]
      have ih := rep_valV hk hu r2
      by_cases c : p.1 = k
      · rw [if_pos (by simpa using c), if_pos c]
        exact .cons hu ih
      · rw [if_neg (by simpa using c), if_neg c]
        exact .cons r1 ih
theorem put_valV {k : Key} {d x : D} {u : V} (hk : keyD d = some k) {F : Hp} {ι : List Addr} (hu : Rp T F ι x u) {kvs : List (Key × V)} {xs : List D} (r : Rps T F ι xs (kvs.map (·.2))) :
    setK d (kvs.map fun p => kD p.1) = (putK kvs k u).map (fun p => kD p.1) ∧ Rps T F ι (setD d x (kvs.map fun p => kD p.1) xs) ((putK kvs k u).map (·.2)) := by
  have q : ((kvs.map fun p => kD p.1).any fun c => eqK c d) = kvs.any fun kv => decide (kv.1 = k) := by
    rw [List.any_map]
    congr 1
    funext p
    exact eqK_kD hk
  unfold setK setD putK
  rw [q]
  split
  · refine ⟨?_, rep_valV hk hu r⟩
    rw [List.map_map]
    refine List.map_congr_left fun p _ => ?_
    simp only [Function.comp]
    split <;> rfl
  · refine ⟨by rw [List.map_append, kD_of hk]; rfl, ?_⟩
    rw [List.map_append]
    exact r.app (.cons hu .nil)
/-! ### d[k], k in d, d[k] = v, len(d), list(d), {} -/
def oDix : DOp := fun x y s => match dcOf s x, keyD y with
  | some (ks, xs), some _ => match lkD y ks xs with
    | some d => .ok d s
    | none => .stuck
  | _, _ => .stuck
def dDix (f g : DE) : DE := fun δ s => (f δ s).bind fun x s1 => (g δ s1).bind fun y s2 => oDix x y s2
def dDin (neg : Bool) (g f : DE) : DE := fun δ s => (g δ s).bind fun y s1 => (f δ s1).bind fun x s2 => match dcOf s2 x, keyD y with
  | some (ks, xs), some _ => .ok (.bl (neg != (lkD y ks xs).isSome)) s2
  | _, _ => .stuck
variable {X : Cx}
theorem d_dix {o i : Expr} {pos : Pos} {f g : DE} (ho : PDe T X o f) (hi : PDe T X i g) (hu : X.A.units + 1 < cLine) (hs : NoSl i := by intro _ _; rfl) : PDe T X (.Subscript o i pos) (dDix f g) := fun pn xe W tk => by
  obtain ⟨t1, p1, d1⟩ := ho pn xe W tk
  obtain ⟨t2, p2, d2⟩ := hi pn xe W tk
  refine ⟨_, pe_dget (X := X.tr pn xe) hu p1 p2 hs, fun σ H P ι F δ s Q R E post => ?_⟩
  show t1 σ H _
  refine den_then d1 R E post fun x v H1 ι1 F1 s1 g1 R1 E1 r1 post1 => ?_
  refine den_then d2 R1 E1 post1 fun y u H2 ι2 F2 s2 g2 R2 E2 r2 post2 => ?_
  unfold oDix at post2
  split at post2
  · rename_i ks xs k h1 h2
    obtain ⟨a, kvs, rfl, h3, h4, h5⟩ := dc_of R2 (r1.mono g2) h1
    subst h4
    rcases lk_valV h2 h5 with ⟨x', v', e1, e2, e3⟩ | ⟨e1, e2⟩
    · rw [e1] at post2
      exact ⟨a, v', rfl, .inl ⟨kvs, k, h3, key_of' r2 h2, e2.symm⟩, post2.here R2 e3⟩
    · rw [e1] at post2
      exact post2.elim
  · exact post2.elim
theorem den_din {W : WX} {neg : Bool} {t1 t2 : TE} {f g : DE} (d2 : DenG T (Rp T) W t2 g) (d1 : DenG T (Rp T) W t1 f) {σ : L2.St} {H P : Hp} {ι : List Addr} {F : Hp} {δ : Env} {s : Sto} {Q : VK} (R : RelH T P ι F s H) (E : REnv T F ι δ σ)
    (post : Post T P (Rp T) Q (fun c H' => W (.ref (T.ca c)) none σ H') F ι (dDin neg g f δ s)) : t2 σ H fun y H1 => t1 σ H1 fun x H2 => ∃ a o, x = .ref a ∧ DGet H2 a y o ∧ Q (.bl (neg != o.isSome)) H2 := by
  refine den_then d2 R E post fun y u H1 ι1 F1 s1 g1 R1 E1 r1 post1 => ?_
  refine den_then d1 R1 E1 post1 fun x v H2 ι2 F2 s2 g2 R2 E2 r2 post2 => ?_
  split at post2
  · rename_i ks xs k h1 h2
    obtain ⟨a, kvs, rfl, h3, h4, h5⟩ := dc_of R2 r2 h1
    subst h4
    rcases lk_valV h2 h5 with ⟨x', v', e1, e2, e3⟩ | ⟨e1, e2⟩
    · rw [e1] at post2
      exact ⟨a, some v', rfl, .inl ⟨kvs, k, h3, key_of' (r1.mono g2) h2, e2.symm⟩, post2.here R2 (by unfold Rp; rfl)⟩
    · rw [e1] at post2
      exact ⟨a, none, rfl, .inl ⟨kvs, k, h3, key_of' (r1.mono g2) h2, e2.symm⟩, post2.here R2 (by unfold Rp; rfl)⟩
  · exact post2.elim
theorem d_din {o i : Expr} {pos : Pos} {f g : DE} (hi : PDe T X i g) (ho : PDe T X o f) (hu : X.A.units + 1 < cLine) (hm : behindInMarks .In o = false := by rfl) : PDe T X (.Compare i [.In] [o] pos) (dDin false g f) := fun pn xe W tk => by
  obtain ⟨t1, p1, d1⟩ := ho pn xe W tk
  obtain ⟨t2, p2, d2⟩ := hi pn xe W tk
  refine ⟨_, pe_cmp (pc_din (X := X.tr pn xe) hu p2 p1) hm, fun σ H P ι F δ s Q R E post => ?_⟩
  have := den_din (neg := false) d2 d1 R E post
  simp only [Bool.false_bne] at this
  exact this
theorem d_dnotin {o i : Expr} {pos : Pos} {f g : DE} (hi : PDe T X i g) (ho : PDe T X o f) (hu : X.A.units + 1 < cLine) (hm : behindInMarks .NotIn o = false := by rfl) : PDe T X (.Compare i [.NotIn] [o] pos) (dDin true g f) := fun pn xe W tk => by
  obtain ⟨t1, p1, d1⟩ := ho pn xe W tk
  obtain ⟨t2, p2, d2⟩ := hi pn xe W tk
  refine ⟨_, pe_cmp (pc_dnotin (X := X.tr pn xe) hu p2 p1) hm, fun σ H P ι F δ s Q R E post => ?_⟩
  have := den_din (neg := true) d2 d1 R E post
  simp only [Bool.true_bne] at this
  exact this
/-- .. as a test -/
theorem t_din {o i : Expr} {pos : Pos} {f g : DE} (hi : PDe T X i g) (ho : PDe T X o f) (hu : X.A.units + 1 < cLine) (hm : behindInMarks .In o = false := by rfl) : PDt T X (.Compare i [.In] [o] pos) (tst (dDin false g f)) := fun pn xe W tk => by
  obtain ⟨t, p, d⟩ := d_din (pos := pos) hi ho hu hm pn xe W tk
  obtain ⟨t1, p1, d1⟩ := ho pn xe W tk
  obtain ⟨t2, p2, d2⟩ := hi pn xe W tk
  refine ⟨_, pt_cmp (pc_din (X := X.tr pn xe) hu p2 p1) hm, fun σ H P ι F δ s Q R E post => ?_⟩
  refine den_tst (t := tDIn t2 t1) (f := dDin false g f) (fun σ H P ι F δ s Q R E post => ?_) σ H P ι F δ s Q R E post
  have := den_din (neg := false) d2 d1 R E post
  simp only [Bool.false_bne] at this
  exact this
theorem t_dnotin {o i : Expr} {pos : Pos} {f g : DE} (hi : PDe T X i g) (ho : PDe T X o f) (hu : X.A.units + 1 < cLine) (hm : behindInMarks .NotIn o = false := by rfl) : PDt T X (.Compare i [.NotIn] [o] pos) (tst (dDin true g f)) := fun pn xe W tk => by
  obtain ⟨t1, p1, d1⟩ := ho pn xe W tk
  obtain ⟨t2, p2, d2⟩ := hi pn xe W tk
  refine ⟨_, pt_cmp (pc_dnotin (X := X.tr pn xe) hu p2 p1) hm, fun σ H P ι F δ s Q R E post => ?_⟩
  refine den_tst (t := tDNotIn t2 t1) (f := dDin true g f) (fun σ H P ι F δ s Q R E post => ?_) σ H P ι F δ s Q R E post
  have := den_din (neg := true) d2 d1 R E post
  simp only [Bool.true_bne] at this
  exact this
/-- d[k] = v, d a cell -/
def sDput (fv fo fi : DE) : DS := fun δ s => (fv δ s).out δ fun d s1 => (fo δ s1).out δ fun o s2 => (fi δ s2).out δ fun i s3 => match o, keyD i with
  | .loc n, some _ => match s3[n]? with
    | some (.dct ks xs) => if ks.length < 1000 then .nx δ (s3.set n (.dct (setK i ks) (setD i d ks xs))) else .stuck
    | _ => .stuck
  | _, _ => .stuck
theorem s_dput {o i e : Expr} {tpos pos : Pos} {fv fo fi : DE} (he : PDe T X e fv) (ho : PDe T X o fo) (hi : PDe T X i fi) (hu : X.A.units + 1 < cLine) (hs : swapsWith e (some (.Subscript o i tpos)) pos.line X.env = pure false := by rfl) :
    PDs T X (.Assign [.Subscript o i tpos] e pos) (sDput fv fo fi) := fun pn xe W tk _ => by
  obtain ⟨t1, p1, d1⟩ := he pn xe W tk
  obtain ⟨t2, p2, d2⟩ := ho pn xe W tk
  obtain ⟨t3, p3, d3⟩ := hi pn xe W tk
  refine ⟨_, ps_dput (X := X.tr pn xe) hu p2 p3 p1 hs, fun En σ H P ι F δ s R E post => ?_⟩
  show t1 σ H _
  refine dens_then d1 R E post fun x v H1 ι1 F1 s1 g1 R1 E1 r1 post1 => ?_
  refine dens_then d2 R1 E1 post1 fun y u H2 ι2 F2 s2 g2 R2 E2 r2 post2 => ?_
  refine dens_then d3 R2 E2 post2 fun z w H3 ι3 F3 s3 g3 R3 E3 r3 post3 => ?_
  split at post3
  · rename_i n k h2
    split at post3
    · rename_i ks xs hs3
      split at post3
      · rename_i hl
        have r2' := r2.mono g3
        unfold Rp at r2'
        obtain ⟨a, e1, rfl⟩ := r2'
        obtain ⟨h4, kvs, h5, h6, h7⟩ := R3.cell _ _ _ hs3 e1
        subst h6
        rw [List.length_map] at hl
        obtain ⟨q1, q2⟩ := put_valV h2 (r1.mono (g2.trans g3)) h7
        refine ⟨a, _, rfl, .inl ⟨kvs, k, h5, key_of' r3 h2, by rw [sizeLine_eq]; omega, rfl⟩, ?_⟩
        exact post3 σ _ ι3 F3 (Grow.refl _ _) (R3.setC hs3 rfl e1 ⟨h4, _, upd_same, q1, q2⟩) E3
      · exact post3.elim
    · exact post3.elim
  · exact post3.elim
/-- {}, a cell -/
def dDctC : DE := fun _ s => .ok (.loc s.length) (s ++ [.dct [] []])
theorem d_dctC {pos : Pos} : PDe T X (.Dict [] [] pos) dDctC := fun pn xe W tk => ⟨_, pe_dnewK, fun σ H P ι F δ s Q R E post p hp => post_loc post R hp ⟨R.freeF hp, [], upd_same, rfl, .nil⟩⟩
def rLenD : List V → Hp → VK → Prop := fun xs H Q => ∃ a kvs, xs = [V.ref a] ∧ Rd H a (.dK kvs) ∧ Q (.int kvs.length) H
theorem call_lenD : CallR X (.builtin "len") rLenD := by
  intro pins s σ H xs us Q I r h
  obtain ⟨a, kvs, rfl, e, q⟩ := h
  rw [Vals.ref1 r]
  exact d_len I e fun t s' I' => ⟨.int kvs.length, H, I', ⟨t, rfl⟩, q⟩
def bLenA : DB := fun ds s => match ds with
  | [x] => match dcOf s x with
    | some (ks, _) => .ok (.int ks.length) s
    | none => bLen [x] s
  | _ => .stuck
theorem db_lenA : DenB T (fun xs H Q => rLen T.K xs H Q ∨ rLenD xs H Q) bLenA := by
  intro ds vs H P ι F s Q E R r post
  unfold bLenA at post
  split at post
  · obtain ⟨v, rfl, h1⟩ := rps1 r
    split at post
    · rename_i ks xs h
      obtain ⟨a, kvs, rfl, h3, h4, h5⟩ := dc_of R h1 h
      refine .inr ⟨a, kvs, rfl, h3, ?_⟩
      subst h4
      rw [List.length_map] at post
      exact post.here R (by unfold Rp; rfl)
    · exact .inl (db_len _ _ _ _ _ _ _ _ _ R r post)
  · exact post.elim
theorem call_lenA : CallR X (.builtin "len") (fun xs H Q => rLen X.K xs H Q ∨ rLenD xs H Q) := CallR.or call_len call_lenD
def bListA : DB := fun ds s => match ds with
  | [x] => match dcOf s x with
    | some (ks, _) => .ok (.lst ks) s
    | none => bList [x] s
  | _ => .stuck
abbrev rListD : List V → Hp → VK → Prop := fun xs H Q => ∃ (a : Addr) (kvs : List (Key × V)), xs = [.ref a] ∧ Rd H a (.dK kvs) ∧ ∀ p, H p = none → Q (.ref p) (upd H p (.lst (kvs.map fun kv => kV kv.1)))
theorem rps_keys {F : Hp} {ι : List Addr} : ∀ kvs : List (Key × V), Rps T F ι (kvs.map fun p => kD p.1) (kvs.map fun p => kV p.1)
  | [] => .nil
  | p :: kvs => by
    rw [List.map_cons, List.map_cons]
    refine .cons ?_ (rps_keys kvs)
    cases p.1 with
    | inl i => unfold kD Rp; rfl
    | inr x =>
      unfold kD Rp
      show V.str x = _
      congr 1
theorem db_listA : DenB T (fun xs H Q => rListOf T.K xs H Q ∨ rListD xs H Q) bListA := by
  intro ds vs H P ι F s Q E R r post
  unfold bListA at post
  split at post
  · obtain ⟨v, rfl, h1⟩ := rps1 r
    split at post
    · rename_i ks xs h
      obtain ⟨a, kvs, rfl, h3, h4, h5⟩ := dc_of R h1 h
      refine .inr ⟨a, kvs, rfl, h3, fun p hp => post.new R hp fun g => ?_⟩
      unfold Rp
      subst h4
      exact ⟨p, _, rfl, upd_same, rps_keys kvs⟩
    · exact .inl (db_list _ _ _ _ _ _ _ _ _ R r post)
  · exact post.elim
theorem call_listA (hc : X.calm = true) : CallR X (.type "list") (fun xs H Q => rListOf X.K xs H Q ∨ rListD xs H Q) := CallR.or call_list_of (call_listD hc)
end
end Mp
/-! # MpY -/
namespace Mp
open PySem PySem.Spec PyProof.Rows L2
theorem hu_of {n : Nat} (h : n + 64 < cLine) : n + 1 < cLine := by omega
section
variable {T : Tb} {X : Cx}
/-! ## x += e, whole numbers -/
def sAug (i : Nat) (g : Int → Int → Int) (f : DE) : DS := fun δ s => match δ[i]? with
  | some (some (.int a)) => (f δ s).out δ fun x s1 => match x with
    | .int b => .nx (δ.set i (some (.int (g a b)))) s1
    | _ => .stuck
  | _ => .stuck
theorem s_augAdd {x : Str} {e : Expr} {pos pos' : Pos} {f : DE} (i : Nat) (hN : X.N.Nodup) (he : PDe T X e f) (hi : X.N[i]? = some x := by rfl) (hx : Loc X.env.scope x := by first | exact Or.inl rfl | exact Or.inr rfl)
    (hf : X.fn x = true ∨ X.env.scope.names.lookup x = some .local := by first | exact Or.inr rfl | exact Or.inl rfl) : PDs T X (.AugAssign (.Name x pos') .Add e pos) (sAug i (fun a b => a + b) f) := fun pn xe W tk _ => by
  obtain ⟨t1, p1, d1⟩ := he pn xe W tk
  refine ⟨_, ps_aug (X := X.tr pn xe) (i := i) hN hi hx p1 ip_add hf, fun En σ H P ι F δ s R E post => ?_⟩
  unfold sAug at post
  split at post
  · rename_i a ha
    obtain ⟨v, e1, e2⟩ := E.at_ i _ ha
    unfold Rp at e2
    subst e2
    refine ⟨_, e1, ?_⟩
    refine dens_then d1 R E post fun y u H1 ι1 F1 s1 g1 R1 E1 r1 post1 => ?_
    split at post1
    · unfold Rp at r1
      refine ⟨_, _, rfl, r1, ?_⟩
      exact post1 _ H1 ι1 F1 (Grow.refl _ _) R1 (E1.set (by unfold Rp; rfl) i)
    · exact post1.elim
  · exact post.elim
/-! ## xs[::-1] -/
def dRev (f : DE) : DE := fun δ s => (f δ s).bind fun x s1 => match lqOf s1 x with
  | some xs => .ok (.lst xs.reverse) s1
  | none => .stuck
theorem d_rev {e : Expr} {k : Nat} {p1 p2 p3 pos : Pos} {f : DE} (he : PDe T X e f) (hK : X.K = T.K := by rfl) : PDe T X (.Subscript e (.Slice none none (some (.UnaryOp .USub (.Constant (.int 1) k p1) p2)) p3) pos) (dRev f) := fun pn xe W tk => by
  obtain ⟨t1, p1', d1⟩ := he pn xe W tk
  have hK' : (X.tr pn xe).K = T.K := hK
  refine ⟨_, pe_revL (X := X.tr pn xe) p1', fun σ H P ι F δ s Q R E post => ?_⟩
  rw [hK']
  show t1 σ H _
  refine den_then d1 R E post fun x v H1 ι1 F1 s1 g1 R1 E1 r1 post1 => ?_
  split at post1
  · rename_i xs h
    obtain ⟨a, us, rfl, h2, h3⟩ := lq_of R1 r1 h
    refine ⟨a, us, rfl, h2, fun p hp => post1.new R1 hp fun g => ?_⟩
    unfold Rp
    exact ⟨p, _, rfl, upd_same, h3.rev.mono g⟩
  · exact post1.elim
/-! ## xs[i:j], as a cell -/
def dSlC (f : DE) (lo hi : DOI) : DE := fun δ s => (f δ s).bind fun x s1 => (lo δ s1).bind fun l s2 => (hi δ s2).bind fun u s3 => match lqOf s3 x with
  | some xs => .ok (.loc s3.length) (s3 ++ [.lst (cutL xs l u)])
  | none => .stuck
theorem d_slC {e : Expr} {lo hi : Option Expr} {p2 pos : Pos} {f : DE} {g h : DOI} (he : PDe T X e f) (hl : PDo T X lo g) (hh : PDo T X hi h) (hK : X.K = T.K := by rfl) : PDe T X (.Subscript e (.Slice lo hi none p2) pos) (dSlC f g h) := fun pn xe W tk => by
  obtain ⟨t1, p1, d1⟩ := he pn xe W tk
  obtain ⟨t2, p2, d2⟩ := hl pn xe W tk
  obtain ⟨t3, p3, d3⟩ := hh pn xe W tk
  refine ⟨_, pe_slice (X := X.tr pn xe) sl_list p1 p2 p3, fun σ H P ι F δ s Q R E post => ?_⟩
  show t1 σ H _
  refine den_then d1 R E post fun x y H1 ι1 F1 s1 g1 R1 E1 r1 post1 => ?_
  refine den_then d2 R1 E1 post1 fun l l' H2 ι2 F2 s2 g2 R2 E2 r2 post2 => ?_
  refine den_then d3 R2 E2 post2 fun u u' H3 ι3 F3 s3 g3 R3 E3 r3 post3 => ?_
  cases r2
  cases r3
  have rx := (r1.mono g2).mono g3
  have hK' : (X.tr pn xe).K = T.K := hK
  rw [hK']
  split at post3
  · rename_i xs h
    obtain ⟨a, vs, rfl, h2, h3⟩ := lq_of R3 rx h
    refine ⟨a, vs, rfl, h2, fun p hp => post_loc post3 R3 hp ?_⟩
    exact ⟨R3.freeF hp, _, upd_same, (cut_ok h3 l u).mono (grow_app _ _ _)⟩
  · exact post3.elim
end
end Mp
/-! # MpZ -/
namespace Mp
open PySem PySem.Spec PyProof.Rows L2
section
variable {T : Tb} {X : Cx}
/-! ## enumerate(xs) -/
def enD : Nat → List D → List D
  | _, [] => []
  | i, x :: xs => .tup [.int (i : Int), x] :: enD (i + 1) xs
theorem enD_len : ∀ {i : Nat} {xs : List D}, (enD i xs).length = xs.length
  | _, [] => rfl
  | i, x :: xs => by simp [enD, enD_len (i := i + 1) (xs := xs)]
theorem enD_at : ∀ {xs : List D} {i j : Nat} {x : D}, xs[j]? = some x → (enD i xs)[j]? = some (.tup [.int ((i + j : Nat) : Int), x])
  | [], _, _, _, h => by simp at h
  | y :: ys, i, 0, x, h => by
    simp at h
    subst h
    rfl
  | y :: ys, i, j + 1, x, h => by
    have e := enD_at (i := i + 1) (show ys[j]? = some x by simpa using h)
    show (enD (i + 1) ys)[j]? = _
    rw [e, show i + 1 + j = i + (j + 1) by omega]
theorem walks_enum {F : Hp} {ι : List Addr} {a : Addr} {vs : List V} {ds : List D} (h : SqL T.K F a vs) (r : Rps T F ι ds vs) : Walks T (Ite T.K a) (enD 0 ds) F ι := by
  unfold Walks
  rw [enD_len, r.len]
  exact {
    goes := fun i H hi hF => by
      obtain ⟨x, hx⟩ := get_lt hi
      exact ⟨vs, x, sql_mono hF h, hx⟩
    stops := fun H hF => ⟨vs, sql_mono hF h, Nat.le_refl _⟩
    yields := fun i H x H' hi hF y => by
      obtain ⟨p, z, e1, e2, e3, e4⟩ := y
      have e5 := e4 vs (sql_mono hF h)
      have hi1 : i < ds.length := by rw [r.len]; exact hi
      obtain ⟨d, hd⟩ := get_lt hi1
      obtain ⟨v', h1, h2⟩ := r.get hd
      rw [e5] at h1
      cases h1
      refine ⟨_, enD_at (i := 0) hd, .inr ⟨p, [.int ((i : Nat) : Int), z], _, e1, e2, e3, rfl, .cons ?_ (.cons h2 .nil)⟩⟩
      unfold Rp
      rw [Nat.zero_add] }
def itEnum (f : DA) : DIt := fun δ s => (f δ s).bind fun xs s1 => match xs with
  | [.lst a] => .ok (enD 0 a) s1
  | _ => .stuck
theorem i_enum {e : Expr} {p pos tpos : Pos} {elts : List Expr} {kk : Nat} {f : DA} (hm : X.mg "enumerate" = none) (ha : PDa T X [e] f) (hg : Gl X "enumerate" := by rfl)
    (hs : starEach [e] X.env = [(false, eval e X.env)] := by rfl) (hK : X.K = T.K := by rfl) :
    PDi T X (.Tuple elts kk tpos) (.Call (.Name "enumerate" p) [e] [] pos) (itEnum f) := fun pn xe W tk => by
  obtain ⟨t1, p1, d1⟩ := ha pn xe W tk
  have hK' : (X.tr pn xe).K = T.K := hK
  refine ⟨_, pi_enum (X := X.tr pn xe) hg hm p1 hs, fun σ H P ι F δ s Q R E post => ?_⟩
  rw [hK']
  show t1 σ H _
  refine den_then d1 R E post fun x y H1 ι1 F1 s1 g R1 E1 r1 post1 => ?_
  split at post1
  · obtain ⟨v, rfl, h1⟩ := rps1 r1.1
    unfold Rp at h1
    obtain ⟨a, vs, rfl, h3, h4⟩ := h1
    exact ⟨a, vs, rfl, SqL.of (R1.sub _ _ h3), post1.here R1 (walks_enum (SqL.of h3) h4)⟩
  · exact post1.elim
end
end Mp
namespace Mp
open PySem PySem.Spec PyProof.Rows L2
section
variable {δ : Env} {s : Sto}
@[simp] theorem itEnum_eq {f : DA} : itEnum f δ s = (f δ s).bind fun xs s1 => match xs with
  | [.lst a] => .ok (enD 0 a) s1
  | _ => .stuck := rfl
@[simp] theorem dcOf_dct {ks xs : List D} : dcOf s (.dct ks xs) = some (ks, xs) := rfl
@[simp] theorem dcOf_loc {n : Nat} : dcOf s (.loc n) = match s[n]? with
    | some (.dct ks xs) => some (ks, xs)
    | _ => none := rfl
@[simp] theorem keyD_int {a : Int} : keyD (.int a) = some (.inl a) := rfl
@[simp] theorem keyD_str {z : List Nat} : keyD (.str z) = some (.inr (S z)) := rfl
@[simp] theorem dDix_eq {f g : DE} : dDix f g δ s = (f δ s).bind fun x s1 => (g δ s1).bind fun y s2 => oDix x y s2 := rfl
@[simp] theorem dDin_eq {neg : Bool} {f g : DE} : dDin neg g f δ s = (g δ s).bind fun y s1 => (f δ s1).bind fun x s2 => match dcOf s2 x, keyD y with
  | some (ks, xs), some _ => .ok (.bl (neg != (lkD y ks xs).isSome)) s2
  | _, _ => .stuck := rfl
@[simp] theorem sDput_eq {fv fo fi : DE} : sDput fv fo fi δ s = (fv δ s).out δ fun d s1 => (fo δ s1).out δ fun o s2 => (fi δ s2).out δ fun i s3 => match o, keyD i with
  | .loc n, some _ => match s3[n]? with
    | some (.dct ks xs) => if ks.length < 1000 then .nx δ (s3.set n (.dct (setK i ks) (setD i d ks xs))) else .stuck
    | _ => .stuck
  | _, _ => .stuck := rfl
@[simp] theorem bLenA_loc {n : Nat} {ks xs : List D} (h : s[n]? = some (.dct ks xs)) : bLenA [.loc n] s = .ok (.int ks.length) s := by
  unfold bLenA
  simp [h]
@[simp] theorem bListA_loc {n : Nat} {ks xs : List D} (h : s[n]? = some (.dct ks xs)) : bListA [.loc n] s = .ok (.lst ks) s := by
  unfold bListA
  simp [h]
@[simp] theorem bTuple_lst {xs : List D} : bTuple [.lst xs] s = .ok (.tup xs) s := rfl
@[simp] theorem bTuple_tup {xs : List D} : bTuple [.tup xs] s = .ok (.tup xs) s := rfl
@[simp] theorem dDctC_eq : dDctC δ s = .ok (.loc s.length) (s ++ [.dct [] []]) := rfl
@[simp] theorem dRev_eq {f : DE} : dRev f δ s = (f δ s).bind fun x s1 => match lqOf s1 x with
  | some xs => .ok (.lst xs.reverse) s1
  | none => .stuck := rfl
@[simp] theorem sAug_eq {i : Nat} {g : Int → Int → Int} {f : DE} : sAug i g f δ s = match δ[i]? with
  | some (some (.int a)) => (f δ s).out δ fun x s1 => match x with
    | .int b => .nx (δ.set i (some (.int (g a b)))) s1
    | _ => .stuck
  | _ => .stuck := rfl
@[simp] theorem dSlC_eq {f : DE} {lo hi : DOI} : dSlC f lo hi δ s = (f δ s).bind fun x s1 => (lo δ s1).bind fun l s2 => (hi δ s2).bind fun u s3 => match lqOf s3 x with
  | some xs => .ok (.loc s3.length) (s3 ++ [.lst (cutL xs l u)])
  | none => .stuck := rfl
@[simp] theorem lkD_nil {k : D} : lkD k [] [] = none := rfl
theorem lkD_cons {k c x : D} {ks xs : List D} : lkD k (c :: ks) (x :: xs) = if eqK c k = true then some x else lkD k ks xs := rfl
@[simp] theorem eqK_str {a b : List Nat} : eqK (.str a) (.str b) = (a == b) := rfl
end
end Mp
/-! # MpO -/
namespace Mp
open PySem PySem.Spec PyProof.Rows L2
/-! ## x or y, x and y by truth -/
def truD (s : Sto) : D → Option Bool
  | .non => some false
  | .bl b => some b
  | .int i => some (i != 0)
  | .tup xs => some (!xs.isEmpty)
  | x => match lqOf s x with
    | some xs => some (!xs.isEmpty)
    | none => none
section
variable {T : Tb} {X : Cx}
variable {P F : Hp} {ι : List Addr} {s : Sto} {H : Hp}
theorem emp_of {F : Hp} {ι : List Addr} {ds : List D} {vs : List V} (r : Rps T F ι ds vs) : vs.isEmpty = ds.isEmpty := by
  have h := r.len
  cases ds <;> cases vs <;> simp_all
theorem tru_of (R : RelH T P ι F s H) {d : D} {v : V} {k : Bool} (r : Rp T F ι d v) (e : truD s d = some k) : TruV T.K v H k := by
  have seq : ∀ xs, lqOf s d = some xs → k = !xs.isEmpty → TruV T.K v H k := fun xs h q => by
    obtain ⟨a, vs, rfl, h2, h3⟩ := lq_of R r h
    exact .inl ⟨vs, h2, by rw [emp_of h3, q]⟩
  cases d with
  | non =>
    unfold Rp at r
    cases e
    subst r
    rfl
  | bl b =>
    unfold Rp at r
    cases e
    subst r
    rfl
  | int i =>
    unfold Rp at r
    cases e
    subst r
    rfl
  | tup xs =>
    obtain ⟨a, vs, rfl, h1, h2, h3⟩ := tp_of R r
    cases e
    exact .inr (.inl ⟨vs, SqT.of h1, by rw [emp_of h3]⟩)
  | _ =>
    simp only [truD] at e
    split at e
    · rename_i xs h
      cases e
      exact seq _ h rfl
    · cases e
def dOrT (f g : DE) : DE := fun δ s => (f δ s).bind fun x s1 => match truD s1 x with
  | some true => .ok x s1
  | some false => g δ s1
  | none => .stuck
theorem d_orT {a b : Expr} {rest : List Expr} {pos : Pos} {fa fb : DE} (ha : PDe T X a fa) (hb : PDe T X (.BoolOp .Or (b :: rest) pos) fb) (hK : X.K = T.K := by rfl) : PDe T X (.BoolOp .Or (a :: b :: rest) pos) (dOrT fa fb) := fun pn xe W tk => by
  obtain ⟨t1, p1, d1⟩ := ha pn xe W tk
  obtain ⟨t2, p2, d2⟩ := hb pn xe W tk
  have hK' : (X.tr pn xe).K = T.K := hK
  refine ⟨_, pe_orT (X := X.tr pn xe) p1 p2, fun σ H P ι F δ s Q R E post => ?_⟩
  rw [hK']
  show t1 σ H _
  refine den_then d1 R E post fun x y H1 ι1 F1 s1 g1 R1 E1 r1 post1 => ?_
  cases h : truD s1 x with
  | none =>
    rw [h] at post1
    exact post1.elim
  | some b =>
    rw [h] at post1
    refine ⟨b, tru_of R1 r1 h, ?_⟩
    cases b with
    | true =>
      rw [if_pos rfl]
      exact post1.here R1 r1
    | false =>
      rw [if_neg Bool.false_ne_true]
      exact d2 _ _ _ _ _ _ _ _ R1 E1 post1
/-- a value as a test, by its truth -/
def tTru (f : DE) : DT := fun δ s => (f δ s).bind fun x s1 => match truD s1 x with
  | some b => .ok b s1
  | none => .stuck
theorem t_tru {e : Expr} {f : DE} (h : PDe T X e f) (he : ∀ whole, isTrue e X.env whole = (do let v ← whole; standAt e.pos; holding [v] (truthy v)) := by intro _; rfl) (hK : X.K = T.K := by rfl) : PDt T X e (tTru f) := fun pn xe W tk => by
  obtain ⟨t1, p1, d1⟩ := h pn xe W tk
  have hK' : (X.tr pn xe).K = T.K := hK
  refine ⟨_, pt_truth (X := X.tr pn xe) p1 he, fun σ H P ι F δ s Q R E post => ?_⟩
  rw [hK']
  show t1 σ H _
  refine den_then d1 R E post fun x y H1 ι1 F1 s1 g1 R1 E1 r1 post1 => ?_
  cases h : truD s1 x with
  | none =>
    rw [h] at post1
    exact post1.elim
  | some b =>
    rw [h] at post1
    exact ⟨b, tru_of R1 r1 h, post1.here R1 rfl⟩
end
section
variable {δ : Env} {s : Sto}
@[simp] theorem dOrT_eq {f g : DE} : dOrT f g δ s = (f δ s).bind fun x s1 => match truD s1 x with
  | some true => .ok x s1
  | some false => g δ s1
  | none => .stuck := rfl
@[simp] theorem tTru_eq {f : DE} : tTru f δ s = (f δ s).bind fun x s1 => match truD s1 x with
  | some b => .ok b s1
  | none => .stuck := rfl
@[simp] theorem truD_non : truD s .non = some false := rfl
@[simp] theorem truD_bl {b : Bool} : truD s (.bl b) = some b := rfl
@[simp] theorem truD_int {i : Int} : truD s (.int i) = some (i != 0) := rfl
@[simp] theorem truD_tup {xs : List D} : truD s (.tup xs) = some (!xs.isEmpty) := rfl
@[simp] theorem truD_lst {xs : List D} : truD s (.lst xs) = some (!xs.isEmpty) := rfl
end
end Mp
/-! # MpP -/
namespace Mp
open PySem PySem.Spec PyProof.Rows L2
/-! ## triples of a number and two texts: min, remove -/
abbrev T3 := Int × List Nat × List Nat
def d3 (t : T3) : D := .tup [.int t.1, .str t.2.1, .str t.2.2]
def of3 : D → Option T3
  | .tup [.int m, .str a, .str b] => some (m, a, b)
  | _ => none
def of3s : List D → Option (List T3)
  | [] => some []
  | d :: r => match of3 d, of3s r with
    | some t, some ts => some (t :: ts)
    | _, _ => none
theorem of3_ok {d : D} {t : T3} (h : of3 d = some t) : d = d3 t := by
  unfold of3 at h
  split at h
  · cases h; rfl
  · cases h
theorem of3s_ok : ∀ {ds : List D} {ts : List T3}, of3s ds = some ts → ds = ts.map d3
  | [], ts, h => by cases h; rfl
  | d :: r, ts, h => by
    unfold of3s at h
    cases h1 : of3 d with
    | none => rw [h1] at h; cases h
    | some t =>
      cases h2 : of3s r with
      | none => rw [h1, h2] at h; cases h
      | some us =>
        rw [h1, h2] at h
        cases h
        rw [of3_ok h1, of3s_ok h2]
        rfl
theorem of3s_map : ∀ ts : List T3, of3s (ts.map d3) = some ts
  | [] => rfl
  | t :: ts => by
    rw [List.map_cons]
    unfold of3s
    rw [of3s_map ts]
    rfl
def p3 (t : T3) : PyData := .tuple [.int t.1, .str (S t.2.1), .str (S t.2.2)]
theorem p3_inj {a b : T3} (h : p3 a = p3 b) : a = b := by
  unfold p3 at h
  injection h with h
  injection h with h1 h
  injection h with h2 h
  injection h with h3 h
  injection h1 with h1
  injection h2 with h2
  injection h3 with h3
  obtain ⟨a1, a2, a3⟩ := a
  obtain ⟨b1, b2, b3⟩ := b
  simp only at h1 h2 h3
  rw [h1, S_inj h2, S_inj h3]
theorem toP3 (t : T3) : toP (d3 t) = some (p3 t) := rfl
theorem toPs3 : ∀ ts : List T3, toPs (ts.map d3) = some (ts.map p3)
  | [] => rfl
  | t :: ts => by
    rw [List.map_cons]
    unfold toPs
    rw [toP3, toPs3 ts]
    rfl
def lt3 (a b : T3) : Bool := PySem.W.dataLt (p3 a) (p3 b)
def min3 (x : T3) (xs : List T3) : T3 := xs.foldl (fun a y => if lt3 y a = true then y else a) x
theorem minD3 : ∀ (xs : List T3) (x : T3), PySem.W.minD (p3 x) (xs.map p3) = p3 (min3 x xs)
  | [], x => rfl
  | y :: xs, x => by
    have ih := minD3 xs (if lt3 y x = true then y else x)
    unfold PySem.W.minD min3 at ih ⊢
    rw [List.map_cons, List.foldl_cons, List.foldl_cons, ← ih]
    have : (if PySem.W.dataLt (p3 y) (p3 x) = true then p3 y else p3 x) = p3 (if lt3 y x = true then y else x) := by
      unfold lt3
      split <;> rfl
    rw [this]
theorem dep3 : ∀ ts : List T3, PyData.depthAll (ts.map p3) ≤ 1
  | [] => Nat.zero_le _
  | t :: ts => by
    rw [List.map_cons]
    unfold PyData.depthAll
    have := dep3 ts
    have e : (p3 t).depth = 1 := rfl
    rw [e]
    omega
theorem alike3 (ts : List T3) : PySem.W.AlikeAll (ts.map p3) := ⟨fun x hx y hy => by
    obtain ⟨i, _, rfl⟩ := List.mem_map.mp hx
    obtain ⟨j, _, rfl⟩ := List.mem_map.mp hy
    rfl, fun x hx => by
    obtain ⟨i, _, rfl⟩ := List.mem_map.mp hx
    intro z; cases z⟩
theorem plain3 : ∀ ts : List T3, PyData.plainAll (ts.map p3) = true
  | [] => rfl
  | t :: ts => by
    rw [List.map_cons]
    unfold PyData.plainAll
    rw [plain3 ts]
    rfl
def rMin3 (K : PySem.W.Frag) : List V → Hp → VK → Prop := fun xs H Q => ∃ (a : Addr) (vs : List V) (t : T3) (ts : List T3), xs = [.ref a] ∧ SqL K H a vs ∧ DpAll K H vs ((t :: ts).map p3) ∧ ∀ (i : Nat) (v : V), (t :: ts)[i]? = some (min3 t ts) → vs[i]? = some v → Q v H
theorem call_min3D {X : Cx} (hc : X.calm = true) (hu : X.A.units + 64 < cLine) : CallR X (.builtin "min") (rMin3 X.K) := by
  intro pins s σ H xs us Q I r h
  obtain ⟨a, vs, t, ts, rfl, hs, hd, q⟩ := h
  obtain ⟨its, rv, hl, _⟩ := I.list hs
  rw [Vals.ref1 r]
  obtain ⟨as, hr⟩ := Dp.readsAll I _ vs its hd rv
  have dep := dep3 (t :: ts)
  refine PySem.W.min_list_data (I.ok.hd hc) hl.isList (by rw [List.toList_toArray]; exact hr) (alike3 (t :: ts)) (by rw [List.map_cons] at dep; omega) (fun i v h' tk bs hv rd hk => ?_)
  have hv' : its[i]? = some v := by simpa using hv
  obtain ⟨cs, rc, hi, _⟩ := PySem.W.readsAll_at hr i v hv'
  have hi' : i < (t :: ts).length := by simpa using hi
  have ti : (t :: ts)[i]? = some ((t :: ts)[i]) := List.getElem?_eq_getElem hi'
  have e1 : ((t :: ts).map p3).getD i .none = p3 ((t :: ts)[i]) := by
    rw [List.getD_eq_getElem?_getD, List.getElem?_map, ti]
    rfl
  rw [e1] at rc
  have r1 := SeqAt.readOf_plain rfl (PySem.W.reads_keeps hk rc)
  have rd2 : Reads h' v (p3 (min3 t ts)) bs := by
    rw [← minD3]
    exact rd
  have r2 := SeqAt.readOf_plain rfl rd2
  have e2 := p3_inj (r1.symm.trans r2)
  have hlen := rv.length
  have hiv : i < vs.length := by
    have := (List.getElem?_eq_some_iff.mp hv').1
    omega
  obtain ⟨u, hu1, hu2⟩ := Vals.get rv (List.getElem?_eq_getElem hiv)
  rw [hv'] at hu1
  cases hu1
  exact ⟨vs[i], H, I.kept hk, hu2, q i _ (by rw [ti, e2]) (List.getElem?_eq_getElem hiv)⟩
def bMin3 : DB
  | [x], s => match (lqOf s x).bind of3s with
    | some (t :: ts) => .ok (d3 (min3 t ts)) s
    | _ => .stuck
  | _, _ => .stuck
section
variable {T : Tb}
theorem rps_at {F : Hp} {ι : List Addr} : ∀ {ds : List D} {vs : List V} {i : Nat} {d : D} {v : V}, Rps T F ι ds vs → ds[i]? = some d → vs[i]? = some v → Rp T F ι d v
  | [], vs, i, d, v, r, h, _ => by cases h
  | x :: xs, vs, i, d, v, r, h, k => by
    unfold Rps at r
    obtain ⟨u, us, rfl, r1, r2⟩ := r
    cases i with
    | zero => cases h; cases k; exact r1
    | succ i => exact rps_at r2 h k
theorem db_min3 : DenB T (rMin3 T.K) bMin3 := by
  intro ds vs H P ι F s Q E R r post
  rcases ds with _ | ⟨x, _ | ⟨y, w⟩⟩
  · exact post.elim
  · obtain ⟨v, rfl, h1⟩ := rps1 r
    unfold bMin3 at post
    dsimp only at post
    cases q : lqOf s x with
    | none => rw [q] at post; exact post.elim
    | some xs =>
      rw [q] at post
      cases h : of3s xs with
      | none => rw [Option.bind_some, h] at post; exact post.elim
      | some us =>
        rw [Option.bind_some, h] at post
        cases us with
        | nil => exact post.elim
        | cons t ts =>
          obtain ⟨a, us, rfl, h2, h3⟩ := lq_of R h1 q
          have e := of3s_ok h
          subst e
          refine ⟨a, us, t, ts, rfl, h2, dps_of R h3 (toPs3 _), fun i v hi hv => ?_⟩
          have hd : ((t :: ts).map d3)[i]? = some (d3 (min3 t ts)) := by rw [List.getElem?_map, hi]; rfl
          exact post.here R (rps_at h3 hd hv)
  · exact post.elim
end
/-! ### remove -/
def rRem3 (K : PySem.W.Frag) : V → List V → Hp → VK → Prop := fun x xs H Q => ∃ (l : Addr) (vs : List V) (y : V) (ts : List T3) (t : T3) (j : Nat), x = .ref l ∧ xs = [y] ∧ H l = some (.lst vs) ∧ DpAll K H vs (ts.map p3) ∧ Dp K H y (p3 t) ∧ ts.findIdx? (· == t) = some j ∧ Q .non (upd H l (.lst (vs.eraseIdx j)))
theorem eqv3 (a b : T3) : PyData.eqv (p3 a) (p3 b) = (a == b) := by
  obtain ⟨a1, a2, a3⟩ := a
  obtain ⟨b1, b2, b3⟩ := b
  have hs : ∀ x y : List Nat, (S x == S y) = (x == y) := fun x y => by
    rw [Bool.eq_iff_iff, beq_iff_eq, beq_iff_eq]
    exact ⟨S_inj, fun e => by rw [e]⟩
  show (PyData.eqvAll [.int a1, .str (S a2), .str (S a3)] [.int b1, .str (S b2), .str (S b3)]) = _
  simp only [PyData.eqvAll, PyData.eqv, Bool.and_true]
  rw [Bool.eq_iff_iff]
  simp
  intro _
  constructor
  · rintro ⟨h1, h2⟩
    exact ⟨S_inj h1, S_inj h2⟩
  · rintro ⟨rfl, rfl⟩
    exact ⟨rfl, rfl⟩
theorem place3 {t : T3} : ∀ ts : List T3, SeqAt.dataPlace (ts.map p3) (p3 t) = ts.findIdx? (· == t)
  | [] => rfl
  | u :: ts => by
    have ih := place3 (t := t) ts
    unfold SeqAt.dataPlace at ih ⊢
    rw [List.map_cons, List.findIdx?_cons, List.findIdx?_cons, eqv3, ih]
theorem mt_rem3 {X : Cx} (hu : X.A.units + 64 < cLine) : MtR X "list.remove" (rRem3 X.K) := by
  intro pins s σ H x xs v us Q I rx rxs h
  obtain ⟨l, vs, y, ts, t, j, rfl, rfl, hH, hd, hy, hj, q⟩ := h
  cases rx
  obtain ⟨u, rfl, ru⟩ := rxs.one
  obtain ⟨z, its, n, r, hl, e⟩ := I.lstM hH
  obtain ⟨bs, rd⟩ := Dp.reads I _ y u hy ru
  obtain ⟨as, ra⟩ := Dp.readsAll I _ vs its hd r
  have dep : (p3 t).depth = 1 := rfl
  refine SeqAt.remove_list_data (vs := its.toArray) ⟨_, e, rfl, n, rfl⟩ (by rw [List.toList_toArray]; exact ra) rd (plain3 ts) rfl (by rw [dep]; omega) (by rw [place3]; exact hj) (by rw [List.size_toArray]; omega) ?_
  refine ⟨.non, _, I.lset (its' := its.eraseIdx j) (t' := s.toks) hH e ?_ (r.eraseIdx j) ?_, rfl, q⟩
  · show its.toArray.eraseIdxIfInBounds j = (its.eraseIdx j).toArray
    rw [List.eraseIdxIfInBounds_toArray]
  · have : (vs.eraseIdx j).length ≤ vs.length := by rw [List.length_eraseIdx]; split <;> omega
    omega
def mRem3 : DM
  | .loc n, [y], s => match s[n]? with
    | some (.lst xs) => match of3s xs, of3 y with
      | some ts, some t => match ts.findIdx? (· == t) with
        | some j => .ok .non (s.set n (.lst (xs.eraseIdx j)))
        | none => .stuck
      | _, _ => .stuck
    | _ => .stuck
  | _, _, _ => .stuck
section
variable {T : Tb}
theorem Rps.erase {F : Hp} {ι : List Addr} : ∀ {ds : List D} {vs : List V} (j : Nat), Rps T F ι ds vs → Rps T F ι (ds.eraseIdx j) (vs.eraseIdx j)
  | [], vs, j, r => by unfold Rps at r; subst r; simpa using Rps.nil
  | x :: xs, vs, j, r => by
    unfold Rps at r
    obtain ⟨u, us, rfl, r1, r2⟩ := r
    cases j with
    | zero => exact r2
    | succ j =>
      show Rps T F ι (x :: xs.eraseIdx j) (u :: us.eraseIdx j)
      unfold Rps
      exact ⟨u, _, rfl, r1, Rps.erase j r2⟩
theorem dm_rem3 : DenM T (rRem3 T.K) mRem3 := by
  intro d ds v vs H P ι F s Q E R r rs post
  unfold mRem3 at post
  split at post
  · rename_i n y _
    obtain ⟨u, rfl, h1⟩ := rps1 rs
    unfold Rp at r
    obtain ⟨a, e1, rfl⟩ := r
    split at post
    · rename_i xs hs
      split at post
      · rename_i ts t k1 k2
        split at post
        · rename_i j hj
          obtain ⟨h2, us, h3, h4⟩ := lc_of R hs e1
          have ex := of3s_ok k1
          have ey := of3_ok k2
          subst ey
          refine ⟨a, us, u, ts, t, j, rfl, rfl, h3, ?_, dp_of R h1 (toP3 t), hj, ?_⟩
          · rw [ex] at h4
            exact dps_of R h4 (toPs3 ts)
          · exact post .non _ ι F (Grow.refl _ _) (R.setC hs rfl e1 ⟨h2, _, upd_same, h4.erase j⟩) (by unfold Rp; rfl)
        · exact post.elim
      · exact post.elim
    · exact post.elim
  · exact post.elim
end
end Mp
/-! # MpQ -/
namespace Mp
open PySem PySem.Spec PyProof.Rows L2
/-! ## x in xs, data of some depth -/
def rInX (K : PySem.W.Frag) (neg : Bool) : R2 := fun x y H Q => ∃ d ds, Dp K H x d ∧ (Dp K H y (.list ds) ∨ Dp K H y (.tuple ds)) ∧ SeqAt.shaped d = true ∧ SeqAt.shaped (.list ds) = true ∧ d.depth ≤ 8 ∧ Q (.bl (neg != ds.any fun z => PyData.eqv z d)) H
theorem op_inX {X : Cx} (hu : X.A.units + 64 < cLine) : OpR X (compareOp .In) (rInX X.K false) := by
  intro pins s σ H x y v u Q I rx ry h
  obtain ⟨d, ds, hd, he, sd, se, dd, q⟩ := h
  obtain ⟨as, r1⟩ := Dp.reads I d x v hd rx
  rw [Bool.false_bne] at q
  rcases he with he | he
  · obtain ⟨bs, r2⟩ := Dp.reads I (.list ds) y u he ry
    exact SeqAt.in_list_reads r2 r1 (SeqAt.canLay_of_shaped se) (SeqAt.canLay_of_shaped sd) (by omega) ⟨.bl _, H, I, rfl, q⟩
  · obtain ⟨bs, r2⟩ := Dp.reads I (.tuple ds) y u he ry
    exact SeqAt.in_tuple_reads r2 r1 (SeqAt.canLay_of_shaped se) (SeqAt.canLay_of_shaped sd) (by omega) ⟨.bl _, H, I, rfl, q⟩
theorem op_notInX {X : Cx} (hu : X.A.units + 64 < cLine) : OpR X (compareOp .NotIn) (rInX X.K true) := by
  intro pins s σ H x y v u Q I rx ry h
  obtain ⟨d, ds, hd, he, sd, se, dd, q⟩ := h
  obtain ⟨as, r1⟩ := Dp.reads I d x v hd rx
  rw [Bool.true_bne] at q
  rcases he with he | he
  · obtain ⟨bs, r2⟩ := Dp.reads I (.list ds) y u he ry
    exact SeqAt.notIn_list_reads r2 r1 (SeqAt.canLay_of_shaped se) (SeqAt.canLay_of_shaped sd) (by omega) ⟨.bl _, H, I, rfl, q⟩
  · obtain ⟨bs, r2⟩ := Dp.reads I (.tuple ds) y u he ry
    exact SeqAt.notIn_tuple_reads r2 r1 (SeqAt.canLay_of_shaped se) (SeqAt.canLay_of_shaped sd) (by omega) ⟨.bl _, H, I, rfl, q⟩
def sqD (s : Sto) : D → Option (List D)
  | .tup ys => some ys
  | y => lqOf s y
def oInX (neg : Bool) : DOp := fun x y s => match toP x, (sqD s y).bind toPs with
  | some d, some ds => if (SeqAt.shaped d && (SeqAt.shaped (.list ds) && decide (d.depth ≤ 8))) = true then .ok (.bl (neg != ds.any fun z => PyData.eqv z d)) s else .stuck
  | _, _ => .stuck
section
variable {T : Tb}
theorem do_inX {neg : Bool} : DenOp T (rInX T.K neg) (oInX neg) := by
  intro v u x y H P ι F s Q E R rx ry post
  unfold oInX at post
  cases h1 : toP x with
  | none => rw [h1] at post; exact post.elim
  | some d =>
    cases h2 : (sqD s y).bind toPs with
    | none => rw [h1, h2] at post; exact post.elim
    | some ds =>
      rw [h1, h2] at post
      dsimp only at post
      split at post
      · rename_i hc
        simp only [Bool.and_eq_true, decide_eq_true_eq] at hc
        refine ⟨d, ds, dp_of R rx h1, ?_, hc.1, hc.2.1, hc.2.2, post.here R (by unfold Rp; rfl)⟩
        cases q : sqD s y with
        | none => rw [q] at h2; cases h2
        | some ys =>
          rw [q] at h2
          have h3 : toPs ys = some ds := h2
          cases y with
          | tup zs =>
            cases q
            obtain ⟨a, vs, rfl, e1, e2, e3⟩ := tp_of R ry
            exact .inr (.tup (SqT.of e1) (dps_of R e3 h3))
          | _ =>
            first
              | (obtain ⟨a, vs, rfl, e1, e2⟩ := lq_of R ry q; exact .inl (.lst e1 (dps_of R e2 h3)))
              | cases q
      · exact post.elim
end
section
variable {s : Sto}
theorem any_eqv {n m : Nat} {x : D} {d : PyData} (hx : datD m x = true) (ex : toP x = some d) : ∀ {ys : List D} {ds : List PyData}, datDs n ys = true → toPs ys = some ds → (ds.any fun z => PyData.eqv z d) = ys.any fun z => eqD z x
  | [], ds, _, e => by cases e; rfl
  | y :: ys, ds, h, e => by
    have h' : (datD n y && datDs n ys) = true := h
    rw [Bool.and_eq_true] at h'
    unfold toPs at e
    cases h3 : toP y with
    | none => rw [h3] at e; cases e
    | some p =>
      cases h4 : toPs ys with
      | none => rw [h3, h4] at e; cases e
      | some ps =>
        rw [h3, h4] at e
        cases e
        rw [List.any_cons, List.any_cons, eqv_ok h'.1 hx h3 ex, any_eqv hx ex h'.2 h4]
theorem toPs_lst {ys : List D} {p : PyData} (h : toP (.lst ys) = some p) : ∃ ps, toPs ys = some ps ∧ p = .list ps := by
  unfold toP at h
  cases q : toPs ys with
  | none => rw [q] at h; cases h
  | some ps => rw [q] at h; cases h; exact ⟨ps, rfl, rfl⟩
theorem oInX_ok {neg : Bool} {x y : D} {ys : List D} (hx : datD 8 x = true) (hy : datDs 63 ys = true) (hs : sqD s y = some ys) : oInX neg x y s = .ok (.bl (neg != ys.any fun z => eqD z x)) s := by
  obtain ⟨d, h1, h2, h3⟩ := dat_ok hx
  obtain ⟨q, h4, h5, h6⟩ := dat_ok (x := .lst ys) (n := 64) hy
  obtain ⟨ps, h7, rfl⟩ := toPs_lst h4
  unfold oInX
  rw [h1, hs, Option.bind_some, h7]
  dsimp only
  rw [shaped_of h2 (by omega), shaped_of h5 h6, decide_eq_true (show d.depth ≤ 8 from h3), any_eqv hx h1 hy h7]
  rfl
end
/-! ## dict(list of pairs) -/
def dctF : List D → List D → List D → Option (List D × List D)
  | [], ks, xs => some (ks, xs)
  | .tup [k, v] :: r, ks, xs => match keyD k with
    | some _ => dctF r (setK k ks) (setD k v ks xs)
    | none => none
  | _ :: _, _, _ => none
def bDictP : DB
  | [x], s => match (lqOf s x).bind fun ds => dctF ds [] [] with
    | some (ks, xs) => .ok (.loc s.length) (s ++ [.dct ks xs])
    | none => .stuck
  | _, _ => .stuck
def rDictP (K : PySem.W.Frag) : List V → Hp → VK → Prop := fun xs H Q => ∃ (a : Addr) (ps : List Addr) (kvs : List (Key × V)), xs = [.ref a] ∧ SqL K H a (ps.map V.ref) ∧ Paired (fun p kv => SqT K H p [kV kv.1, kv.2]) ps kvs ∧ ∀ p, H p = none → Q (.ref p) (upd H p (.dK (mergeK [] kvs)))
theorem call_dictX {X : Cx} (hc : X.calm = true) : CallR X (.type "dict") (rDictP X.K) := call_dictP hc
section
variable {T : Tb}
theorem dctF_ok {P : Hp} {ι : List Addr} {F : Hp} {s : Sto} {H : Hp} (R : RelH T P ι F s H) : ∀ {ds : List D} {vs : List V} {kvs0 : List (Key × V)} {xs0 ks xs : List D}, Rps T F ι ds vs → Rps T F ι xs0 (kvs0.map (·.2)) → dctF ds (kvs0.map fun p => kD p.1) xs0 = some (ks, xs) →
    ∃ (ps : List Addr) (kvs : List (Key × V)), vs = ps.map V.ref ∧ Paired (fun p kv => SqT T.K H p [kV kv.1, kv.2]) ps kvs ∧ ks = (mergeK kvs0 kvs).map (fun p => kD p.1) ∧ Rps T F ι xs ((mergeK kvs0 kvs).map (·.2))
  | [], vs, kvs0, xs0, ks, xs, r, r0, h => by
    unfold Rps at r
    subst r
    unfold dctF at h
    cases h
    exact ⟨[], [], rfl, .nil, rfl, r0⟩
  | d :: ds, vs, kvs0, xs0, ks, xs, r, r0, h => by
    unfold Rps at r
    obtain ⟨u, us, rfl, r1, r2⟩ := r
    unfold dctF at h
    split at h
    · rename_i heq; cases heq
    · rename_i k v r' heq
      cases heq
      split at h
      · rename_i key hk
        obtain ⟨a, vs, rfl, h1, _, h3⟩ := tp_of R r1
        unfold Rps at h3
        obtain ⟨w1, ws, rfl, q1, h3⟩ := h3
        unfold Rps at h3
        obtain ⟨w2, ws, rfl, q2, h3⟩ := h3
        unfold Rps at h3
        subst h3
        have e := key_of' q1 hk
        subst e
        obtain ⟨p1, p2⟩ := put_valV hk q2 r0
        rw [p1] at h
        obtain ⟨ps, kvs, rfl, g1, g2, g3⟩ := dctF_ok R r2 p2 h
        exact ⟨a :: ps, (key, w2) :: kvs, rfl, .cons (SqT.of h1) g1, g2, g3⟩
      · cases h
    · cases h
theorem db_dictP : DenB T (rDictP T.K) bDictP := by
  intro ds vs H P ι F s Q E R r post
  rcases ds with _ | ⟨x, _ | ⟨y, w⟩⟩
  · exact post.elim
  · obtain ⟨v, rfl, h1⟩ := rps1 r
    unfold bDictP at post
    dsimp only at post
    cases q : lqOf s x with
    | none => rw [q] at post; exact post.elim
    | some xs =>
      rw [q, Option.bind_some] at post
      cases h : dctF xs [] [] with
      | none => rw [h] at post; exact post.elim
      | some kx =>
        obtain ⟨ks, ys⟩ := kx
        rw [h] at post
        dsimp only at post
        obtain ⟨a, us, rfl, h2, h3⟩ := lq_of R h1 q
        obtain ⟨ps, kvs, rfl, g1, g2, g3⟩ := dctF_ok R (kvs0 := []) h3 (by unfold Rps; rfl) h
        refine ⟨a, ps, kvs, rfl, h2, g1, fun p hp => post_loc post R hp ?_⟩
        exact ⟨R.freeF hp, _, upd_same, g2, g3.mono (grow_app _ _ _)⟩
  · exact post.elim
end
/-! ## list(range(a, b)) -/
def dListR2 (f g : DE) : DE := fun δ s => (f δ s).bind fun x s1 => (g δ s1).bind fun y s2 => match x, y with
  | .int a, .int b => if 0 ≤ a ∧ a ≤ 1000 ∧ 0 ≤ b ∧ b ≤ 1000 then .ok (.lst (intsD a (b - a).toNat)) s2 else .stuck
  | _, _ => .stuck
section
variable {T : Tb} {X : Cx}
theorem rps_rg2 {F : Hp} {ι : List Addr} (a b : Int) : Rps T F ι (intsD a (b - a).toNat) (rgV a b) := by
  have := rps_ints (T := T) (F := F) (ι := ι) ((List.range (b - a).toNat).map fun (i : Nat) => a + (i : Int))
  rw [List.map_map, List.map_map] at this
  exact this
theorem d_listR2 {a b : Expr} {f g : DE} {p p2 q pos : Pos} (hm : X.mg "list" = none) (hm2 : X.mg "range" = none) (ha : PDe T X a f) (hb : PDe T X b g) (hg : Gl X "list" := by rfl) (hg2 : Gl X "range" := by rfl) (hc : X.calm = true := by rfl)
    (na : starEach [a, b] X.env = (false, eval a X.env) :: starEach [b] X.env := by rfl) (nb : starEach [b] X.env = (false, eval b X.env) :: starEach [] X.env := by rfl) (hp : (backTo q (starEach [b] X.env)).any (·.1) = false := by rfl)
    (na2 : starEach [Expr.Call (.Name "range" p2) [a, b] [] q] X.env = (false, eval (Expr.Call (.Name "range" p2) [a, b] [] q) X.env) :: starEach [] X.env := by rfl) :
    PDe T X (.Call (.Name "list" p) [.Call (.Name "range" p2) [a, b] [] q] [] pos) (dListR2 f g) := fun pn xe W tk => by
  obtain ⟨t1, p1, d1⟩ := ha pn xe W tk
  obtain ⟨t2, p2', d2⟩ := hb pn xe W tk
  refine ⟨_, pe_listRg (X := X.tr pn xe) hc hg hm (prg_2 hg2 hm2 p1 p2' na nb hp) na2, fun σ H P ι F δ s Q R E post => ?_⟩
  show t1 σ H _
  refine den_then d1 R E post fun x v H1 ι1 F1 s1 g1 R1 E1 r1 post1 => ?_
  refine den_then d2 R1 E1 post1 fun y w H2 ι2 F2 s2 g2 R2 E2 r2 post2 => ?_
  split at post2
  · rename_i i j
    have r1' := r1.mono g2
    unfold Rp at r1' r2
    subst r1' r2
    split at post2
    · rename_i hn
      refine ⟨i, j, rfl, rfl, RgOk.of_le (by omega) (by omega) (by omega) (by omega), fun l hl => ?_⟩
      refine post2.new R2 hl fun gg => ?_
      unfold Rp
      exact ⟨l, _, rfl, upd_same, rps_rg2 i j⟩
    · exact post2.elim
  · exact post2.elim
end
/-! ## xs = [.. for x in o], o a list cell -/
section
variable {T : Tb} {X : Cx}
theorem den_lcA {W : WX} {t1 : TE} {f : DE} {ws vs0 : List Nat} {t : DTg} {c : DT} {e : DE} (d1 : DenG T (Rp T) W t1 f) (hs : ∀ i ∈ ws, i ∈ vs0) : DenG T (Rp T) W (tLc (fun σ H R => (iList T.K t1 σ H R ∨ iTup T.K t1 σ H R) ∨ iStr t1 σ H R) (canT T ws t) (canE T eqR W0 c) (canE T (Rp T) W0 e) vs0) (dLcA f t c e vs0) := fun σ H P ι F δ s Q R E post => by
  have post0 : Post T P (Rp T) Q (fun c H' => W (.ref (T.ca c)) none σ H') F ι ((f δ s).bind fun x s1 => match itCel x s1 with
    | some (ds, s2, h) => backO h (lcL t c e (wipeE δ vs0) ds [] s2)
    | none => .stuck) := post
  cases ef : f δ s with
  | stuck => rw [ef] at post0; exact post0.elim
  | exc k s1 =>
    rw [ef] at post0
    refine .inl (.inl ?_)
    show t1 σ H _
    refine d1 σ H P ι F δ s _ R E ?_
    rw [ef]
    exact fun H' ι' F' g R' => post0 H' ι' F' g R'
  | ok x s1 =>
    rw [ef] at post0
    have run : ∀ {G : V → Hp → Prop}, (∀ v H' ι' F', Grow F ι F' ι' → RelH T P ι' F' s1 H' → Rp T F' ι' x v → G v H') → t1 σ H G := fun {G} h => by
      refine d1 σ H P ι F δ s G R E ?_
      rw [ef]
      exact h
    cases x with
    | lst xs =>
      refine .inl (.inl ?_)
      show t1 σ H _
      refine run fun v H1 ι1 F1 g1 R1 r1 => ?_
      unfold Rp at r1
      obtain ⟨a, vs, rfl, h1, h2⟩ := r1
      exact ⟨a, rfl, ⟨vs, SqL.of (R1.sub _ _ h1)⟩, lc_run hs ((walks_list (SqL.of h1) h2).toP P) R1 (E.mono g1) (Post.mono g1 post0)⟩
    | scr ns =>
      refine .inl (.inl ?_)
      show t1 σ H _
      refine run fun v H1 ι1 F1 g1 R1 r1 => ?_
      unfold Rp at r1
      obtain ⟨a, rfl, h1⟩ := r1
      exact ⟨a, rfl, ⟨_, sql_mono R1.sub h1⟩, lc_run hs ((walks_list h1 (rps_ints ns)).toP P) R1 (E.mono g1) (Post.mono g1 post0)⟩
    | tup xs =>
      refine .inl (.inr ?_)
      show t1 σ H _
      refine run fun v H1 ι1 F1 g1 R1 r1 => ?_
      obtain ⟨a, vs, rfl, h1, h0, h2⟩ := tp_of R1 r1
      exact ⟨a, rfl, ⟨vs, SqT.of h1⟩, lc_run hs ((walks_tup h0 h2).toP P) R1 (E.mono g1) (Post.mono g1 post0)⟩
    | str z =>
      refine .inr ?_
      show t1 σ H _
      refine run fun v H1 ι1 F1 g1 R1 r1 => ?_
      unfold Rp at r1
      exact ⟨S z, r1, lc_run hs ((walks_str z).toP P) R1 (E.mono g1) (Post.mono g1 post0)⟩
    | loc n =>
      refine .inl (.inl ?_)
      show t1 σ H _
      refine run fun v H1 ι1 F1 g1 R1 r1 => ?_
      have post1 : Post T P (Rp T) Q (fun c H' => W (.ref (T.ca c)) none σ H') F ι (match itCel (.loc n) s1 with
        | some (ds, s2, h) => backO h (lcL t c e (wipeE δ vs0) ds [] s2)
        | none => .stuck) := post0
      unfold Rp at r1
      obtain ⟨a, e1, rfl⟩ := r1
      unfold itCel at post1
      dsimp only at post1
      cases hs1 : s1[n]? with
      | none => rw [hs1] at post1; exact post1.elim
      | some cl =>
        rw [hs1] at post1
        cases cl with
        | lst xs =>
          obtain ⟨vs, h1, h2, h3, h4, R2⟩ := R1.hold hs1 e1
          exact ⟨a, rfl, ⟨vs, SqL.of h1⟩, lc_run hs (walksP_cell (P := upd P a (.lst vs)) upd_same h2) R2 (E.mono g1) (post_back h4 e1 h2 (Post.mono g1 post1))⟩
        | _ => exact post1.elim
    | _ => exact post0.elim

theorem s_setLcA {elt tg iter : Expr} {ifs : List Expr} {scope : Scope} {own : List (Str × Nat)} {pos spos py : Pos} {y : Str} {f : DE} {ws : List Nat} {t : DTg} {c : DT} {e : DE} (i : Nat) (hN : X.N.Nodup) (hi : PDe T X iter f) (ok : BlkOk X.N X.env.scope scope own)
    (hg : ∀ (s : Shared) (H : Hp) (C : Addr) (cl : List (Str × Addr)) (fp : List Addr), PDg T (Blk X scope s H C cl fp) tg ws t) (ht : ∀ (s : Shared) (H : Hp) (C : Addr) (cl : List (Str × Addr)) (fp : List Addr), PDts T (Blk X scope s H C cl fp) ifs c)
    (he : ∀ (s : Shared) (H : Hp) (C : Addr) (cl : List (Str × Addr)) (fp : List Addr), PDe T (Blk X scope s H C cl fp) elt e) (hsw : swapsWith (.ListComp elt [⟨tg, iter, ifs, 0⟩] scope pos) (some (.Name y py)) spos.line X.env = pure true)
    (hy : X.N[i]? = some y := by rfl) (hyl : X.env.scope.names.lookup y = some .local := by rfl) (hs : ∀ i ∈ ws, i ∈ own.map (·.2) := by decide) (hf : ∀ x, foldedSetIterable iter X.env x = pure x := by intro _; rfl) (hc : X.calm = true := by rfl) (hK : X.K = T.K := by rfl) :
    PDs T X (.Assign [.Name y py] (.ListComp elt [⟨tg, iter, ifs, 0⟩] scope pos) spos) (sSet i (dLcA f t c e (own.map (·.2)))) := fun pn xe W tk _ => by
  obtain ⟨t1, p1, d1⟩ := hi pn xe W tk
  have hK' : (X.tr pn xe).K = T.K := hK
  have wi : PI (X.tr pn xe) tg iter (fun σ H R => (iList T.K t1 σ H R ∨ iTup T.K t1 σ H R) ∨ iStr t1 σ H R) := by
    have := PI.or (PI.or (pi_list (X := X.tr pn xe) (tg := tg) p1) (pi_tup p1)) (pi_str p1)
    rw [hK'] at this
    exact this
  refine ⟨_, ps_setLc (X := X.tr pn xe) (i := i) (own := own) hc hN hy hyl hsw wi ok (g := canT T ws t) (tt := canE T eqR W0 c) (te := canE T (Rp T) W0 e) (fun s H C cl fp => ?_) (fun s H C cl fp => ?_) (fun s H C cl fp => ?_) hf, fun En σ H P ι F δ s R E post => ?_⟩
  · obtain ⟨g, p, d⟩ := hg s H C cl fp [] (fun _ _ => False)
    exact PG.weak p fun v σ H Q q => d.can q
  · obtain ⟨g, p, d⟩ := ht s H C cl fp
    exact PTs.weak p fun σ H Q q => d.can q
  · obtain ⟨g, p, d⟩ := he s H C cl fp [] (fun _ _ => False) W0 takes0
    exact PE.weak p fun σ H Q q => d.can q
  · have dl : DenG T (Rp T) W _ _ := den_lcA (T := T) (c := c) (e := e) (t := t) d1 hs
    refine dens_then dl R E post fun x v H1 ι1 F1 s1 g R1 E1 r1 post1 => ?_
    exact post1 _ H1 ι1 F1 (Grow.refl _ _) R1 (E1.set r1 i)
end
section
variable {δ : Env} {s : Sto}
@[simp] theorem dListR2_eq {f g : DE} : dListR2 f g δ s = (f δ s).bind fun x s1 => (g δ s1).bind fun y s2 => match x, y with
  | .int a, .int b => if 0 ≤ a ∧ a ≤ 1000 ∧ 0 ≤ b ∧ b ≤ 1000 then .ok (.lst (intsD a (b - a).toNat)) s2 else .stuck
  | _, _ => .stuck := rfl
@[simp] theorem sqD_tup {ys : List D} : sqD s (.tup ys) = some ys := rfl
@[simp] theorem sqD_lst {ys : List D} : sqD s (.lst ys) = some ys := rfl
@[simp] theorem sqD_loc {n : Nat} : sqD s (.loc n) = match s[n]? with
  | some (.lst xs) => some xs
  | _ => none := rfl
end
end Mp
/-! # MpR -/
namespace Mp
open PySem PySem.Spec PyProof.Rows L2
/-! ## a list, so many times, as a cell -/
def oMulC : DOp
  | x, .int k, s => match lsOf s x with
    | some xs => if xs.length * k.toNat ≤ lim ∧ -(2 ^ 62) ≤ k ∧ k < 2 ^ 62 then .ok (.loc s.length) (s ++ [.lst (List.replicate k.toNat xs).flatten]) else .stuck
    | none => .stuck
  | _, _, _ => .stuck
section
variable {T : Tb}
theorem do_mulC : DenOp T rMulA oMulC := by
  intro x y dx dy H P ι F s Q E R rx ry post
  unfold oMulC at post
  split at post
  · split at post
    · rename_i xs hx
      split at post
      · rename_i hl
        obtain ⟨p, vs, rfl, e1, e2⟩ := ls_of R rx hx
        unfold Rp at ry
        refine .inr ⟨p, _, vs, rfl, ry, e1, by omega, by omega, by rw [← e2.len]; exact lim_le hl.1, fun l hp => post_loc post R hp ?_⟩
        exact ⟨R.freeF hp, _, upd_same, (rps_rep e2 _).mono (grow_app _ _ _)⟩
      · exact post.elim
    · exact post.elim
  · exact post.elim
end
/-! ## a list of cells stays as it is from now on -/
def frzAll : List D → Sto → Option (List D × Sto)
  | [], s => some ([], s)
  | d :: r, s => match frzD s d with
    | some (d', s1) => match frzAll r s1 with
      | some (r', s2) => some (d' :: r', s2)
      | none => none
    | none => none
def sFrzN (i : Nat) : DS := fun δ s => match δ[i]? with
  | some (some (.lst ds)) => match frzAll ds s with
    | some (ds', s') => .nx (δ.set i (some (.lst ds'))) s'
    | none => .nx δ s
  | _ => .nx δ s
section
variable {T : Tb} {X : Cx}
theorem frzAll_ok {P : Hp} {ι : List Addr} {H : Hp} : ∀ {ds ds' : List D} {vs : List V} {F : Hp} {s s' : Sto}, RelH T P ι F s H → Rps T F ι ds vs → frzAll ds s = some (ds', s') → ∃ F', Grow F ι F' ι ∧ RelH T P ι F' s' H ∧ Rps T F' ι ds' vs
  | [], ds', vs, F, s, s', R, r, h => by
    unfold frzAll at h
    cases h
    exact ⟨F, Grow.refl _ _, R, r⟩
  | d :: ds, ds', vs, F, s, s', R, r, h => by
    unfold Rps at r
    obtain ⟨v, us, rfl, r1, r2⟩ := r
    unfold frzAll at h
    split at h
    · rename_i d' s1 h1
      split at h
      · rename_i r' s2 h2
        cases h
        obtain ⟨F1, g1, R1, q1⟩ := frz_ok R r1 h1
        obtain ⟨F2, g2, R2, q2⟩ := frzAll_ok R1 (r2.mono g1) h2
        refine ⟨F2, g1.trans g2, R2, ?_⟩
        unfold Rps
        exact ⟨v, us, rfl, q1.mono g2, q2⟩
      · cases h
    · cases h
theorem b_frzN {rest : List Stmt} {g : DS} (i : Nat) (h : PDb T X rest g) : PDb T X rest (sSeq (sFrzN i) g) := fun pn xe W tk ow => by
  obtain ⟨t1, p1, d1⟩ := h pn xe W tk ow
  refine ⟨t1, p1, fun En σ H P ι F δ s R E post => ?_⟩
  have same : sFrzN i δ s = .nx δ s → t1 En σ H := fun e => by
    unfold sSeq at post
    rw [e] at post
    exact d1 _ _ _ _ _ _ _ _ R E post
  cases q : δ[i]? with
  | none => exact same (by unfold sFrzN; rw [q])
  | some o =>
    cases o with
    | none => exact same (by unfold sFrzN; rw [q])
    | some d =>
      cases d with
      | lst ds =>
        cases hz : frzAll ds s with
        | none => exact same (by unfold sFrzN; rw [q]; dsimp only; rw [hz])
        | some z =>
          obtain ⟨ds', s'⟩ := z
          have e : sFrzN i δ s = .nx (δ.set i (some (.lst ds'))) s' := by unfold sFrzN; rw [q]; dsimp only; rw [hz]
          unfold sSeq at post
          rw [e] at post
          obtain ⟨v, e1, e2⟩ := E.at_ i _ q
          unfold Rp at e2
          obtain ⟨a, vs, rfl, h1, h2⟩ := e2
          obtain ⟨F', g', R', r'⟩ := frzAll_ok R h2 hz
          have rv : Rp T F' ι (.lst ds') (.ref a) := by
            unfold Rp
            exact ⟨a, vs, rfl, g'.1 _ _ h1, r'⟩
          have E' := (E.mono g').set rv i
          have hl := (List.getElem?_eq_some_iff.mp e1).1
          have es : σ.set i (some (.ref a)) = σ := by
            refine List.ext_getElem? fun j => ?_
            by_cases c : i = j
            · subst c; rw [List.getElem?_set_self hl, e1]
            · rw [List.getElem?_set_ne c]
          rw [es] at E'
          exact d1 _ _ _ _ _ _ _ _ R' E' (PostS.mono g' post)
      | _ => exact same (by unfold sFrzN; rw [q])
end
/-! ## for .. in zip(o, o2), o a list cell -/
section
variable {T : Tb}
theorem walksP_zip {P F : Hp} {ι : List Addr} {a b : Addr} {vs us : List V} {ds es : List D} (h : P a = some (.lst vs)) (h' : F b = some (.lst us)) (r : Rps T F ι ds vs) (r' : Rps T F ι es us) : WalksP T (Itz T.K a b) (zipD ds es) P F ι := by
  have w : L2.Walk (Itz T.K a b) (min vs.length us.length) (fun H => SqL T.K H a vs ∧ SqL T.K H b us) (YPair (fun i => vs[i]?) (fun i => us[i]?)) := walk_zip rfl
  unfold WalksP
  rw [zipD_len, r.len, r'.len]
  refine w.mono (fun H hF => ⟨SqL.of (hF.2 _ _ h), SqL.of (hF.1 _ _ h')⟩) fun i H x H' hi hF y => ?_
  obtain ⟨p, v, u, e1, e2, e3, e4, e5⟩ := y
  have hi1 : i < ds.length := by rw [r.len]; omega
  have hi2 : i < es.length := by rw [r'.len]; omega
  obtain ⟨d, hd⟩ := get_lt hi1
  obtain ⟨e, he⟩ := get_lt hi2
  obtain ⟨v', h1, h2⟩ := r.get hd
  obtain ⟨u', h3, h4⟩ := r'.get he
  have e4' : vs[i]? = some v := e4
  have e5' : us[i]? = some u := e5
  rw [e4'] at h1
  rw [e5'] at h3
  cases h1
  cases h3
  exact ⟨_, zipD_at hd he, .inr ⟨p, [v, u], [d, e], e1, e2, e3, rfl, .cons h2 (.cons h4 .nil)⟩⟩
def zRun (t : DTg) (body : DS) (δ : Env) (xs : List D) (s1 : Sto) : Out := match xs with
  | [.lst a, .lst b] => forL t body (zipD a b) δ s1
  | [.loc n, .lst b] => match s1[n]? with
    | some (.lst a) => (forL t body (zipD a b) δ (s1.set n .dead)).back n a
    | _ => .stuck
  | _ => .stuck
def sForZ (fa : DA) (t : DTg) (body : DS) : DS := fun δ s => (fa δ s).out δ fun xs s1 => zRun t body δ xs s1
theorem s_forZ {X : Cx} {e e2 : Expr} {p pos tpos fpos : Pos} {elts : List Expr} {kk : Nat} {body : List Stmt} {f : DA} {ws : List Nat} {t : DTg} {g : DS} (hm : X.mg "zip" = none) (ha : PDa T X [e, e2] f) (hg : PDg T X (.Tuple elts kk tpos) ws t) (hb : PDb T X body g) (hgl : Gl X "zip" := by rfl)
    (hs : starEach [e, e2] X.env = (false, eval e X.env) :: starEach [e2] X.env := by rfl) (hpl : (backTo pos (starEach [e2] X.env)).any (·.1) = false := by rfl) (hc : X.calm = true := by rfl) (hfs : ∀ x, foldedSetIterable (.Call (.Name "zip" p) [e, e2] [] pos) X.env x = pure x := by intro _; rfl) (hK : X.K = T.K := by rfl) :
    PDs T X (.For (.Tuple elts kk tpos) (.Call (.Name "zip" p) [e, e2] [] pos) body [] fpos) (sForZ f t g) := fun pn xe W tk ow => by
  obtain ⟨t1, p1, d1⟩ := ha pn xe W tk
  obtain ⟨g1, p2, d2⟩ := hg pn xe
  obtain ⟨tb, p3, d3⟩ := hb pn xe W tk ow
  have hK' : (X.tr pn xe).K = T.K := hK
  have wi := RZ.pi_zipA (X := X.tr pn xe) (p := p) (kk := kk) (tpos := tpos) (elts := elts) hgl hm p1 hs hpl
  rw [hK'] at wi
  refine ⟨_, ps_for (X := X.tr pn xe) ow hc wi p2 p3 hfs, fun En σ H P ι F δ s R E post => ?_⟩
  show t1 σ H _
  have post0 : PostS T P En W F ι ((f δ s).out δ fun xs s1 => zRun t g δ xs s1) := post
  refine d1 σ H P ι F δ s _ R E ?_
  cases e0 : f δ s with
  | stuck => rw [e0] at post0; exact post0.elim
  | exc k s1 =>
    rw [e0] at post0
    exact fun H' ι' F' g R' => post0 σ H' ι' F' g R' (E.mono g)
  | ok xs s1 =>
    rw [e0] at post0
    intro vs H1 ι1 F1 gr R1 r1
    have post1 : PostS T P En W F ι (zRun t g δ xs s1) := post0
    unfold zRun at post1
    split at post1
    · obtain ⟨v, u, rfl, h1, h2⟩ := rps2 r1.1
      unfold Rp at h1 h2
      obtain ⟨a, vs, rfl, h3, h4⟩ := h1
      obtain ⟨b, us, rfl, h5, h6⟩ := h2
      exact ⟨a, b, vs, us, rfl, .inl ⟨SqL.of (R1.sub _ _ h3), SqL.of (R1.sub _ _ h5), for_run d2 d3 ((walks_zip (SqL.of h3) (SqL.of h5) h4 h6).toP P) R1 (E.mono gr) (PostS.mono gr post1)⟩⟩
    · obtain ⟨v, u, rfl, h1, h2⟩ := rps2 r1.1
      unfold Rp at h1 h2
      obtain ⟨a, e1, rfl⟩ := h1
      obtain ⟨b, us, rfl, h5, h6⟩ := h2
      split at post1
      · rename_i as hs1
        obtain ⟨vs, q1, q2, q3, q4, R2⟩ := R1.hold hs1 e1
        exact ⟨a, b, vs, us, rfl, .inl ⟨SqL.of q1, SqL.of (R1.sub _ _ h5), for_run d2 d3 (walksP_zip (P := upd P a (.lst vs)) upd_same h5 q2 h6) R2 (E.mono gr) (posts_back q4 e1 q2 (PostS.mono gr post1))⟩⟩
      · exact post1.elim
    · exact post1.elim
end
section
variable {δ : Env} {s : Sto}
@[simp] theorem sForZ_eq {fa : DA} {t : DTg} {body : DS} : sForZ fa t body δ s = (fa δ s).out δ fun xs s1 => zRun t body δ xs s1 := rfl
theorem zRun_lst {t : DTg} {body : DS} {a b : List D} : zRun t body δ [.lst a, .lst b] s = forL t body (zipD a b) δ s := rfl
theorem zRun_loc {t : DTg} {body : DS} {a b : List D} {n : Nat} (h : s[n]? = some (.lst a)) : zRun t body δ [.loc n, .lst b] s = (forL t body (zipD a b) δ (s.set n .dead)).back n a := by
  unfold zRun
  dsimp only
  rw [h]
end
end Mp
/-! # MpLam -/
namespace Mp
open PySem PySem.Spec PyProof.Rows L2 LamX
/-! ## a lambda without parameters, handed to a def that calls it -/
section
variable {X : Cx} {pins : List (Addr × Obj)} {σ : L2.St} {H : Hp} {s : Shared}
/-- the lambda is made: the heap is as before, or one code object richer, told by the table -/
theorem lam_mk {c P : Addr} {ps : Array Value} {params : Arguments} {body : Expr} {scope : Scope} {pos : Pos} {E : Value → Shared → Prop} {Q : Value → Shared → Prop} (I : Inv X pins σ H s) (TB : TabB X.base X.mg c P) (hcode : X.env.code = .ref c)
    (hP : H P = some (.tbl ps)) (ht : TriplesOk ps.toList) (ha : ∀ (p : Pos) (cv : Value), codeAmong p ps.toList = some cv → ∃ c', cv = .ref c' ∧ H c' = some (CodeO c' (X.env.qual ++ "<lambda>")))
    (hdef : defaultsOf params X.env = ([], [])) (hfree : ∀ y ∈ scope.names, y.2 = .free → ∃ c, X.env.cells.lookup y.1 = some c)
    (h : ∀ (f c' : Addr) (pm ctv : Value) (H1 : Hp) (s' : Shared), Inv X pins σ H1 s' →
      ((H1 = H ∧ ∃ p : Pos, codeAmong p ps.toList = some (.ref c')) ∨ ∃ more : Array Value, H c' = none ∧ H1 = upd (upd H P (.tbl (ps ++ more))) c' (CodeO c' (X.env.qual ++ "<lambda>")) ∧ TriplesOk (ps ++ more).toList ∧ ∀ (p : Pos) (cv : Value), codeAmong p (ps ++ more).toList = some cv → codeAmong p ps.toList = some cv ∨ cv = .ref c') →
      s'.heap.get? f = some (PySem.W.kla_obj "<lambda>" (X.env.qual ++ "<lambda>") params body scope (cloFrom X.env.cells scope.names []) pm c' ctv) → H1 f = none → f ∉ frs X.stack → H1 c' = some (CodeO c' (X.env.qual ++ "<lambda>")) → Q (.ref f) s') :
    wpAny (model X.prog X.w) X.A (eval (.Lambda params body scope pos) X.env) Q E s := by
  have bP : s.heap.BuiltinsAt X.mg P := TB.bm.keeps I.bk
  have oP : s.heap.get? P = some { cls := .none, data := .fields ps } := I.hok P _ hP
  have far : ∀ f, s.heap.objs.size ≤ f → f ∉ frs X.stack := fun f hf z => by
    rcases List.mem_cons.mp (I.stkSub _ z) with e | e
    · have l := I.lt
      rw [← e] at l
      exact Nat.lt_irrefl _ (Nat.lt_of_lt_of_le l hf)
    · exact I.nofs hf e
  refine PySem.W.kla_eval hdef ?_
  cases hc : codeAmong pos ps.toList with
  | some cv =>
    obtain ⟨c', rfl, hco⟩ := ha pos cv hc
    refine PySem.W.kla_makeFunctionHit (mg := X.mg) (c := c) (P := P) (ps := ps) (closure_ok hfree) I.ok.glob (I.mod.glob.keeps I.bk) hcode (TB.code.keeps I.bk) oP ht hc bP fun ctv h' tk hx hsz => ?_
    exact h h'.objs.size c' ((X.mg "__name__").getD .none) ctv H _ (I.kept fun b o e => Heap.get?_push_of_some _ (hx b o e)) (.inl ⟨rfl, pos, hc⟩) (Heap.get?_push_size _ rfl) (I.hok.fresh hsz) (far _ hsz) hco
  | none =>
    refine PySem.W.kla_makeFunction (mg := X.mg) (c := c) (P := P) (ps := ps) (closure_ok hfree) I.ok.glob (I.mod.glob.keeps I.bk) hcode (TB.code.keeps I.bk) oP ht hc TB.gP bP fun c' ctv h' tk hx hge hlt hrec htb => ?_
    obtain ⟨c2, oc, vs, t, e2, hoc, hd, hv⟩ := hrec
    cases e2
    have hsz : s.heap.objs.size ≤ h'.objs.size := by omega
    have nC : H c' = none := I.hok.fresh hge
    have I1 := inv_table (t' := tk) (more := #[rawInt pos.line, rawInt pos.col, .ref c']) (h' := h'.push (PySem.W.kla_obj "<lambda>" (X.env.qual ++ "<lambda>") params body scope (cloFrom X.env.cells scope.names []) ((X.mg "__name__").getD .none) c' ctv)) I hP
      (fun b o hb e => Heap.get?_push_of_some _ (hx b o hb e)) (Heap.get?_push_of_some _ htb) hge ⟨oc, vs, t, Heap.get?_push_of_some _ hoc, hd, hv⟩
    have eL : (ps ++ #[rawInt pos.line, rawInt pos.col, .ref c']).toList = ps.toList ++ [rawInt pos.line, rawInt pos.col, .ref c'] := by simp
    have n1 : h'.objs.size ≠ c' := Nat.ne_of_gt hlt
    have n2 : h'.objs.size ≠ P := Nat.ne_of_gt (Nat.lt_of_lt_of_le (Heap.lt_size oP) hsz)
    refine h h'.objs.size c' ((X.mg "__name__").getD .none) ctv _ _ I1 (.inr ⟨_, nC, rfl, by rw [eL]; exact PySem.TriplesOk_snoc _ _ _ _ ht, fun p cv e => ?_⟩) (Heap.get?_push_size _ rfl) (by rw [upd_ne n1, upd_ne n2]; exact I.hok.fresh hsz) (far _ hsz) upd_same
    rw [eL] at e
    exact among_app _ ht e
end
/-! ### what the lambda has caught -/
def capD (δ : Env) : List D := δ.map fun o => o.getD .non
def capV (δ : Env) (σ : L2.St) : List V := List.zipWith (fun o u => match o with
  | some _ => u.getD .non
  | none => .non) δ σ
section
variable {T : Tb} {F : Hp} {ι : List Addr}
theorem cap_rps : ∀ {δ : Env} {σ : L2.St}, δ.length = σ.length → (∀ (i : Nat) d, δ[i]? = some (some d) → ∃ v, σ[i]? = some (some v) ∧ Rp T F ι d v) → Rps T F ι (capD δ) (capV δ σ)
  | [], [], _, _ => .nil
  | [], _ :: _, h, _ => by cases h
  | _ :: _, [], h, _ => by cases h
  | o :: δ, u :: σ, h, k => by
    have ih : Rps T F ι (capD δ) (capV δ σ) := cap_rps (by simpa using h) fun i d e => by
      obtain ⟨v, e1, e2⟩ := k (i + 1) d (by simpa using e)
      exact ⟨v, by simpa using e1, e2⟩
    cases o with
    | none => exact Rps.cons (d := .non) (v := .non) (by unfold Rp; rfl) ih
    | some d =>
      obtain ⟨v, e1, e2⟩ := k 0 d rfl
      have e1' : u = some v := by simpa using e1
      subst e1'
      exact Rps.cons e2 ih
theorem cap_env {F0 : Hp} {ι0 : List Addr} {δ : Env} {σ : L2.St} (E0 : REnv T F0 ι0 δ σ) (r : Rps T F ι (capD δ) (capV δ σ)) : REnv T F ι δ σ := by
  refine ⟨E0.len, fun i d h => ?_⟩
  obtain ⟨v, e1, _⟩ := E0.at_ i d h
  have e2 : (capD δ)[i]? = some d := by
    unfold capD
    rw [List.getElem?_map, h]
    rfl
  obtain ⟨w, e3, e4⟩ := r.get e2
  have e5 : (capV δ σ)[i]? = some v := by
    unfold capV
    rw [List.getElem?_zipWith, h, e1]
    rfl
  rw [e5] at e3
  cases e3
  exact ⟨v, e1, e4⟩
end
open Classical in
/-- x(), where d is what x holds -/
noncomputable def actD (i : Nat) (d : D) (call : Sto → Res D) : DE := fun δ s => if δ[i]? = some (some d) then call s else .stuck
section
variable {T : Tb} {X : Cx} {pins : List (Addr × Obj)} {σ : L2.St} {H : Hp} {s : Shared}
/-- x(), in the def that got the lambda, entered at s -/
theorem d_act {Eg : XK} {Ng : List Str} {qg : Str} {sg : Scope} {g f c' : Addr} {cdg pm ctv : Value} {params : Arguments} {body : Expr} {scope : Scope} {k i : Nat} {a : Str} {fb : DE} {F0 : Hp} {ι0 : List Addr} {δ : Env} {p1 p2 : Pos}
    (I : Inv X pins σ H s) (L : LamS X.env.scope scope) (hf : s.heap.get? f = some (PySem.W.kla_obj "<lambda>" (X.env.qual ++ "<lambda>") params body scope (cloFrom X.env.cells scope.names []) pm c' ctv)) (hfn : H f = none) (hfr : f ∉ frs X.stack)
    (hbind : bindArgs (PySem.W.kla_fn "<lambda>" (X.env.qual ++ "<lambda>") params body scope (cloFrom X.env.cells scope.names []) pm (.ref c') ctv) ⟨[], []⟩ = pure [])
    (hr : Room (k + 1) (X.A.deeper (envOfC qg sg s.heap.objs.size g cdg)))
    (hbody : ∀ (A : Around) (outer : List PySem.Env) (s : Shared) (H : Hp) (E : XK), Room k (A.deeper (lamEnv X scope s.heap.objs.size f c')) → PDe T (lamCx X A outer s H E scope f c') body fb)
    (E0 : REnv T F0 ι0 δ σ) (hN : Ng[i]? = some a) (hv : Vis sg a) (hd : (a == ("__debug__" : Str)) = false) (hcd : (a == ("__classdict__" : Str)) = false) :
    PDe T (cxOf (L2.CX X.prog X.w) X.prog X.w X.K X.mg X.base Ng qg sg g cdg X.A X.stack s H Eg) (.Call (.Name a p1) [] [] p2) (actD i (.fn f c' (X.env.qual ++ "<lambda>") (capV δ σ) (capD δ)) (fb δ)) := by
  intro pn xe W tk
  refine ⟨fun σZ HZ Q => σZ[i]? = some (some (.ref f)) ∧ HZ c' = some (CodeO c' (X.env.qual ++ "<lambda>")) ∧ ∃ P ι F st, RelH T P ι F st HZ ∧ REnv T F ι δ σ ∧ Post T P (Rp T) Q (fun c H' => W (.ref (T.ca c)) none σZ H') F ι (fb δ st), ⟨fun pinsZ sZ σZ HZ Q IZ h => ?_⟩, fun σZ HZ P ι F δZ st Q R E post => ?_⟩
  · obtain ⟨hs, hc, P, ι, F, st, R, E, post⟩ := h
    refine wpAny_Call_Name_kw (thn ((pe_var (pos := p1) (i := i) hN hv hd hcd).run pinsZ sZ σZ HZ (fun v H1 => v = .ref f ∧ H1 = HZ) IZ ⟨.ref f, hs, rfl, rfl⟩) fun u s1 ⟨v, H1, I1, r1, q1⟩ => ?_)
    obtain ⟨ev, eH⟩ := q1
    subst ev
    rw [eH] at I1
    obtain rfl : u = Value.ref f := r1
    have of1 : s1.heap.get? f = some (PySem.W.kla_obj "<lambda>" (X.env.qual ++ "<lambda>") params body scope (cloFrom X.env.cells scope.names []) pm c' ctv) := I1.base.keep f _ hf hfn hfr (fun z => nomatch (show f ∈ ([] : List Addr) from z))
    refine PySem.W.callWith_F0 ⟨_, _, _, _, of1⟩ ?_
    have un : Un (frs X.stack) [] H HZ s.heap s1.heap := I1.base
    obtain ⟨⟨oc, vs, t, hoc, hdc, hvc⟩, _, _⟩ := I1.hok c' _ hc
    have rc : codeAny (model X.prog X.w) (X.A.deeper (envOfC qg sg s.heap.objs.size g cdg)) (.call (.ref f) ⟨[], []⟩) (CR (L2.CX X.prog X.w) (envOfC qg sg s.heap.objs.size g cdg :: X.stack) X.prog X.w HZ s1 Q (fun cls d H' => W cls d σZ H')) s1 := by
      refine PySem.W.kla_callFunE hr.depth of1 rfl L.co L.gen rfl ⟨c', oc, vs, t, rfl, hoc, hdc, hvc⟩ ?_
      rw [hbind]
      refine wpAny_pure (wpAny_newFunctionEnv (fun y hy => (L.own y hy).2) (fun y hy => absurd hy (by simp)) (fun h₁ hns hsb => ⟨I1.nolimit.fresh _ hsb, ?_⟩) L.kind)
      show codeAny _ _ (.expr body (lamEnv X scope s1.heap.objs.size f c')) _ _
      have kp : ∀ b o, s1.heap.get? b = some o → h₁.get? b = some o := fun b o e => hsb.extBut b o (Nat.ne_of_lt (Heap.lt_size e)) (Heap.get?_push_of_some _ e)
      have J : Inv (lamCx X (X.A.deeper (envOfC qg sg s.heap.objs.size g cdg)) (envOfC qg sg s.heap.objs.size g cdg :: X.stack) s1 HZ (fun cls d H' => W cls d σZ H') scope f c') [] σ HZ { s1 with heap := h₁, toks := s1.toks + ([] : List (Str × Value)).length } :=
        lam_start2 I L I1.env0 hr.hd un hns kp
      have tkL : Takes (lamCx X (X.A.deeper (envOfC qg sg s.heap.objs.size g cdg)) (envOfC qg sg s.heap.objs.size g cdg :: X.stack) s1 HZ (fun cls d H' => W cls d σZ H') scope f c') (fun cls d _ H' => W cls d σZ H') := takes_of rfl rfl rfl rfl
      obtain ⟨tb, pb, db⟩ := hbody _ _ s1 HZ (fun cls d H' => W cls d σZ H') (hr.deeper _) _ _ _ tkL
      refine PySem.W.kla_codeExpr (wpAny_mono (pb.run [] _ _ HZ Q J (db _ _ _ _ _ _ _ _ R E post)) (fun v s' hq => ?_) fun e s' hq => hq)
      obtain ⟨w', H', J', rv, q⟩ := hq
      exact ⟨w', H', J'.os, J'.bare, J'.base, J'.hok, rv, q⟩
    refine wpAny_call (codeAny_mono rc fun r s' hq => ?_)
    cases r with
    | error e => exact passAt tk σZ pinsZ HZ s1 e s' I1 hq
    | ok fl =>
      cases fl with
      | ret u => exact I1.after hq
      | next => exact False.elim hq
      | brk => exact False.elim hq
      | cont => exact False.elim hq
  · unfold actD at post
    split at post
    · rename_i hi
      obtain ⟨v, e1, e2⟩ := E.at_ i _ hi
      unfold Rp at e2
      obtain ⟨rfl, e3, e4⟩ := e2
      exact ⟨e1, R.sub _ _ e3, P, ι, F, st, R, cap_env E0 e4, post⟩
    · exact post.elim
/-! ### a def that calls what it is handed -/
structure ClL (T : Tb) (P : Program) (w : World) (mg : Str → Option Value) (base : Heap) (x : Str) (k n : Nat) (gd : DE → DS) : Prop where
  ex : ∃ (g : Addr) (a : Str) (Ng : List Str) (pg : Arguments) (bg : List Stmt) (sg : Scope) (fd : FuncData), mg x = some (.ref g) ∧ FunD T.K x x pg bg sg [] [] g fd ∧ L2.Binds T.K fd [a] [] ∧ FnScope Ng [a] sg ∧ Ng[0]? = some a ∧ Vis sg a ∧ (a == ("__debug__" : Str)) = false ∧ (a == ("__classdict__" : Str)) = false ∧ Ng.length = n ∧
    ∀ (cdv : Value) (A : Around) (outer : List PySem.Env) (s : Shared) (H : Hp) (E : XK) (fc : DE), Room k (A.deeper (envOfC x sg s.heap.objs.size g cdv)) →
      (∀ p1 p2, PDe T (cxOf (L2.CX P w) P w T.K mg base Ng x sg g cdv A outer s H E) (.Call (.Name a p1) [] [] p2) fc) → PDb T (cxOf (L2.CX P w) P w T.K mg base Ng x sg g cdv A outer s H E) bg (gd fc)
noncomputable def lamF (n : Nat) (gd : DE → DS) (d : D) (call : Sto → Res D) : Sto → Res D := fun s => finO s.length (gd (actD 0 d call) (some d :: List.replicate (n - 1) none) s)
open Classical in
/-- x(lambda: ..): the lambda's own addresses don't matter -/
noncomputable def dLam (kt n : Nat) (gd : DE → DS) (fb : DE) : DE := fun δ s =>
  if s[kt]? = some (.tbl kt) ∧ ∀ a c q vs, lamF n gd (.fn a c q vs (capD δ)) (fb δ) s = lamF n gd (.fn 0 0 "" [] (capD δ)) (fb δ) s then lamF n gd (.fn 0 0 "" [] (capD δ)) (fb δ) s else .stuck
theorem d_lamcall {x : Str} {c : Addr} {k n : Nat} {params : Arguments} {body : Expr} {scope : Scope} {p lpos pos : Pos} {gd : DE → DS} {fb : DE} (kt : Nat) (C : ClL T X.prog X.w X.mg X.base x (k + 1) n gd)
    (TB : TabB X.base X.mg c (T.tb kt).1) (hq : (T.tb kt).2 = X.env.qual ++ "<lambda>") (hcode : X.env.code = .ref c) (hr : Room (k + 2) X.A) (L : LamS X.env.scope scope)
    (hbody : ∀ (A : Around) (outer : List PySem.Env) (s : Shared) (H : Hp) (E : XK) (f c' : Addr), Room k (A.deeper (lamEnv X scope s.heap.objs.size f c')) → PDe T (lamCx X A outer s H E scope f c') body fb)
    (hdef : defaultsOf params X.env = ([], []) := by rfl) (hbind : ∀ (q : Str) (cl : List (Str × Addr)) (pm cv ctv : Value), bindArgs (PySem.W.kla_fn "<lambda>" q params body scope cl pm cv ctv) ⟨[], []⟩ = pure [] := by intros; rfl)
    (hg : Gl X x := by rfl) (hK : X.K = T.K := by rfl) (hdb : (x == ("__debug__" : Str)) = false := by decide) :
    PDe T X (.Call (.Name x p) [.Lambda params body scope lpos] [] pos) (dLam kt n gd fb) := by
  intro pn xe W tk
  refine ⟨fun σ H Q => ∃ P ι F δ st, RelH T P ι F st H ∧ REnv T F ι δ σ ∧ Post T P (Rp T) Q (fun c H' => W (.ref (T.ca c)) none σ H') F ι (dLam kt n gd fb δ st), ⟨fun pins s σ H Q I h => ?_⟩, fun σ H P ι F δ st Q R E post => ⟨P, ι, F, δ, st, R, E, post⟩⟩
  obtain ⟨P, ι, F, δ, st, R, E, post⟩ := h
  unfold dLam at post
  split at post
  rotate_left
  · exact post.elim
  rename_i hc
  obtain ⟨hc1, hc2⟩ := hc
  obtain ⟨g, a, Ng, pg, bg, sg, fd, hm, FD, hb, Sg, hNg, hva, hda, hca, hn, hG⟩ := C.ex
  rw [← hK] at FD hb hG
  obtain ⟨oc, od, dV, kV, doc, pm, an, cdv, ct, osl, rfl, lk, hcg, _, _⟩ := FD.ex
  -- the table's cell
  have hlen : kt < st.length := (List.getElem?_eq_some_iff.mp hc1).1
  obtain ⟨ap, hi⟩ : ∃ ap, ι[kt]? = some ap := ⟨_, List.getElem?_eq_getElem (by rw [R.len]; exact hlen)⟩
  obtain ⟨hF, hap, ps, hP, ht, ha⟩ := R.cell kt _ ap hc1 hi
  subst hap
  rw [hq] at ha
  refine wpAny_Call_Name_kw (ld_glob (X := X.tr pn xe) I hg hm ?_ hdb)
  refine PySem.W.callWith_K (h₀ := X.base) I.ok.mod.kin FD.kp ?_ (by rfl) (by rfl)
  show wpAny _ _ (spliced ((false, eval (.Lambda params body scope lpos) X.env) :: backTo pos (starEach [] X.env))) _ _ s
  refine Calls.spliced_cons (lam_mk (X := X.tr pn xe) I TB hcode hP ht (fun p cv e => let ⟨c', e1, e2⟩ := ha p cv e; ⟨c', e1, R.sub _ _ e2⟩) hdef (LamS.has (X := X.tr pn xe) L I.ok) fun f c' pm' ctv H1 s' I1 hH hf hfn hfr hco => ?_)
  refine Calls.spliced_nil ⟨I1.kIn, ?_⟩
  obtain ⟨F1, g1, R1, hF1⟩ : ∃ F1, Grow F ι F1 ι ∧ RelH T P ι F1 st H1 ∧ F1 c' = some (CodeO c' (X.env.qual ++ "<lambda>")) := by
    rcases hH with ⟨e, q, hq'⟩ | ⟨more, nC, e, ht', ha'⟩
    · obtain ⟨c2, e1, e2⟩ := ha q _ hq'
      cases e1
      exact ⟨F, Grow.refl _ _, by rw [e]; exact R, e2⟩
    · have nPc : c' ≠ (T.tb kt).1 := fun z => by
        rw [z, hP] at nC
        cases nC
      have R2 := R.new nC (CodeO c' (X.env.qual ++ "<lambda>"))
      have g2 : Grow F ι (upd F c' (CodeO c' (X.env.qual ++ "<lambda>"))) ι := grow_new (R.freeF nC) _
      have cell : CellAt T ι (upd F c' (CodeO c' (X.env.qual ++ "<lambda>"))) (upd (upd H c' (CodeO c' (X.env.qual ++ "<lambda>"))) (T.tb kt).1 (.tbl (ps ++ more))) (T.tb kt).1 (.tbl kt) := by
        refine ⟨by rw [upd_ne (Ne.symm nPc)]; exact hF, rfl, _, upd_same, ht', fun p cv z => ?_⟩
        rw [hq]
        rcases ha' p cv z with z | z
        · obtain ⟨c2, e1, e2⟩ := ha p cv z
          exact ⟨c2, e1, g2.1 _ _ e2⟩
        · exact ⟨c', z, upd_same⟩
      have R3 := R2.setC hc1 rfl hi cell
      have es : st.set kt (.tbl kt) = st := by
        apply List.ext_getElem?
        intro i
        by_cases c : kt = i
        · subst c
          rw [List.getElem?_set_self hlen, hc1]
        · rw [List.getElem?_set_ne c]
      have eH : upd (upd H c' (CodeO c' (X.env.qual ++ "<lambda>"))) (T.tb kt).1 (.tbl (ps ++ more)) = H1 := by
        rw [e]
        funext b
        unfold upd
        by_cases c1 : b = c'
        · subst c1
          rw [if_neg nPc, if_pos rfl, if_pos rfl]
        · rw [if_neg c1, if_neg c1]
      rw [es, eH] at R3
      exact ⟨_, g2, R3, upd_same⟩
  have rc : codeAny (model X.prog X.w) X.A (.call (.ref g) ⟨[.ref f], []⟩) (CR (L2.CX X.prog X.w) X.stack X.prog X.w H1 s' Q (fun cls d H' => W cls d σ H')) s' := by
    refine run_ofS (N := Ng) (ps := [a]) (us := [.ref f]) (vs := [.ref f]) lk hcg Sg hr I1.env0 (hb s' [.ref f] I1.kIn rfl) (.cons rfl .nil) rfl fun hr' => ?_
    have hcall : ∀ p1 p2, PDe T (cxOf (L2.CX X.prog X.w) X.prog X.w X.K X.mg X.base Ng x sg g cdv X.A X.stack s' H1 (fun cls d H' => W cls d σ H')) (.Call (.Name a p1) [] [] p2) (actD 0 (.fn f c' (X.env.qual ++ "<lambda>") (capV δ σ) (capD δ)) (fb δ)) := fun p1 p2 =>
      d_act (X := X.tr pn xe) (k := k) I1 L hf hfn hfr (hbind _ _ _ _ _) hr' (fun A outer s H E hr2 => hbody A outer s H E f c' hr2) (E.mono g1) hNg hva hda hca
    have tkZ : Takes (cxOf (L2.CX X.prog X.w) X.prog X.w X.K X.mg X.base Ng x sg g cdv X.A X.stack s' H1 (fun cls d H' => W cls d σ H')) (fun cls d _ H' => W cls d σ H') := takes_of rfl rfl rfl rfl
    obtain ⟨t', pt, dt⟩ := hG cdv X.A X.stack s' H1 (fun cls d H' => W cls d σ H') _ hr' hcall _ _ _ tkZ (passes_of rfl)
    subst hn
    have r0 : Rps T F1 ι [D.fn f c' (X.env.qual ++ "<lambda>") (capV δ σ) (capD δ)] [V.ref f] := .cons (by
      unfold Rp
      exact ⟨rfl, hF1, cap_rps E.len (E.mono g1).at_⟩) .nil
    have e0 : REnv T F1 ι (some (D.fn f c' (X.env.qual ++ "<lambda>") (capV δ σ) (capD δ)) :: List.replicate (Ng.length - 1) none) (L2.start Ng [.ref f]) := start_env (N := Ng) r0 (n := 1) rfl
    rw [← hc2 f c' (X.env.qual ++ "<lambda>") (capV δ σ)] at post
    have post1 := post.mono g1
    exact ⟨t', pt, dt _ _ _ _ _ _ _ _ R1 e0 (fin_ok (fun _ _ _ _ h => h) R1 post1)⟩
  refine wpAny_call (codeAny_mono rc fun r s2 hq => ?_)
  cases r with
  | error e => exact passAt tk σ pins H1 s' e s2 I1 hq
  | ok fl =>
    cases fl with
    | ret u => exact I1.after hq
    | next => exact False.elim hq
    | brk => exact False.elim hq
    | cont => exact False.elim hq
end
end Mp
/-! # MpLem -/
namespace Mp
open PySem PySem.Spec L2 PyProof.Rows
/-! ## the head and the end of a law with lambdas -/
theorem ClL.up {T : Tb} {P : Program} {w : World} {mg : Str → Option Value} {base : Heap} {x : Str} {j k n : Nat} {gd : DE → DS} (c : ClL T P w mg base x j n gd) (h : j ≤ k) : ClL T P w mg base x k n gd := by
  obtain ⟨g, a, Ng, pg, bg, sg, fd, h1, h2, h3, h4, h5, h6, h7, h8, h9, h10⟩ := c.ex
  exact ⟨g, a, Ng, pg, bg, sg, fd, h1, h2, h3, h4, h5, h6, h7, h8, h9, fun cdv A outer s H E fc hr hc => h10 cdv A outer s H E fc (hr.mono h) hc⟩
section
variable {T : Tb} {P : Program} {w : World} {mg : Str → Option Value} {base : Heap}
/-- a def with a lambda: its code object is the one that stands in K -/
theorem fn_dL {x qual : Str} {params : Arguments} {body : List Stmt} {scope : Scope} {dvs : List V} {kws : List (Str × V)} {p0 : He.Defn} {fd : FuncData} {N ps : List Str} {k : Nat} {g : DS} (F : FunD T.K x qual params body scope dvs kws (He.fAd T.K p0) fd) (Sc : FnScope N ps scope)
    (h : ∀ (cdv : Value) (A : Around) (outer : List PySem.Env) (s : Shared) (H : Hp) (E : XK), Room k (A.deeper (envOfC qual scope s.heap.objs.size (He.fAd T.K p0) cdv)) → cdv = .ref (He.codeOf T.K p0) → PDb T (cxOf (L2.CX P w) P w T.K mg base N qual scope (He.fAd T.K p0) cdv A outer s H E) body g) :
    FnOk P w T.K mg base (L2.CX P w) (k + 1) (He.fAd T.K p0) fd ps (spD T ps.length (mkF N.length ps.length g)) := by
  obtain ⟨oc, od, dV, kV, doc, pm, an, cdv, ct, osl, rfl, lk, hcd, _, _⟩ := F.ex
  obtain ⟨c0, ec⟩ := He.codeIn_ref hcd
  have e0 : cdv = .ref (He.codeOf T.K p0) := by
    rw [He.codeOf_eq lk (c := c0) ec]
    exact ec
  refine fn_of lk hcd Sc (fun vs H Q E h => h.1) fun A outer s H vs Q E hr sp => ?_
  obtain ⟨hl, P0, ι, F0, st, ds, R, r, post⟩ := sp
  have tk : Takes (cxOf (L2.CX P w) P w T.K mg base N qual scope (He.fAd T.K p0) cdv A outer s H E) (fun cls d _ H => E cls d H) := takes_of rfl rfl rfl rfl
  obtain ⟨t, p, d⟩ := h cdv A outer s H E hr e0 _ _ _ tk (passes_of rfl)
  refine ⟨t, p, ?_⟩
  unfold mkF at post
  split at post
  · rename_i hd
    exact d _ _ _ _ _ _ _ _ R (start_env r hd) (fin_ok (fun _ _ _ _ h => h) R post)
  · exact post.elim
end
/-! ### the hook -/
structure SaysL (fa : List He.Fa) (fn : List He.DefD) (tf : List He.Defn) (ex : PySem.W.Frag → Bool) (h : Heap) (K : PySem.W.Frag) : Prop where
  d : He.SaysD fa fn K
  more : ex K = true
  nd : (tf.map fun p => (He.cT K p).2).Nodup
  hd : ∀ p ∈ tf, PySem.W.codeHdIn K (He.cT K p).1 (He.cT K p).2 = true
  out : ∀ p ∈ tf, K.lookup (He.cT K p).2 = none
  empty : ∀ p ∈ tf, h.get? (He.cT K p).2 = some { cls := .none, data := .fields #[] }
def exL (tf : List He.Defn) (ex : PySem.W.Frag → Bool) (K : PySem.W.Frag) : Bool := ex K && decide ((tf.map fun p => (He.cT K p).2).Nodup)
abbrev AlL : Type := He.AlX
def obsLG (n : Nat) (fa : List He.Fa) (fn : List He.DefD) (tf : List He.Defn) (ex : PySem.W.Frag → Bool) (g : Addr → Option Obj) : AlL := He.obsX n fa fn [] tf (exL tf ex) g
def hookL (n : Nat) (fa : List He.Fa) (fn : List He.DefD) (tf : List He.Defn) (ex : PySem.W.Frag → Bool) : PySem.W.Hook where
  α := AlL
  obs := fun s => obsLG n fa fn tf ex s.heap.get?
  val := fun w => He.valX fn [] w
  says := fun _ h => ∃ K : PySem.W.Frag, K.In h ∧ SaysL fa fn tf ex h K
  of := fun w h e => by
    have c := He.saysX_of (w := w) e
    obtain ⟨h1, h2⟩ := He.ba c.more
    exact ⟨_, He.frT_in, c.t.d, h1, of_decide_eq_true h2, c.hd, c.out, c.empty⟩
  keeps := fun _ _ _ ⟨K, hK, c⟩ k => ⟨K, PySem.W.Frag.In.keeps hK k, c.d, c.more, c.nd, c.hd, c.out, fun p hp => k _ _ (c.empty p hp)⟩
theorem obsLG_eq {n : Nat} {fa : List He.Fa} {fn : List He.DefD} {tf : List He.Defn} {ex : PySem.W.Frag → Bool} {g : Addr → Option Obj} {s : Shared} (h : ∀ a, g a = s.heap.get? a) : obsLG n fa fn tf ex g = (hookL n fa fn tf ex).obs s := by
  have e : g = s.heap.get? := funext h
  rw [e] <;> rfl
/-! ### the end -/
def tbls (n : Nat) : Sto := (List.range n).map Cell.tbl
theorem tbls_at {n i : Nat} {c : Cell} (h : (tbls n)[i]? = some c) : i < n ∧ c = .tbl i := by
  unfold tbls at h
  rw [List.getElem?_map] at h
  by_cases c1 : i < n
  · rw [List.getElem?_range c1] at h
    exact ⟨c1, (Option.some.inj h).symm⟩
  · rw [List.getElem?_eq_none (by simpa using c1)] at h
    cases h
theorem law_endL {T : Tb} {n : Nat} {φ : List D → Sto → Res D} {H : Hp} {a : Addr} {ns : List Int} (hT : ∀ i, i < n → H (T.tb i).1 = some (.tbl #[])) (nd : ∀ i j, i < n → j < n → (T.tb i).1 = (T.tb j).1 → i = j) (hS : SqL T.K H a (ns.map V.int)) (h : ∃ s', φ [.scr ns] (tbls n) = .ok (.bl true) s') :
    spD T 1 φ [.ref a] H (fun v _ => v = .bl true) fun _ _ _ => False := by
  classical
  have isT : ∀ b, (∃ i, i < n ∧ b = (T.tb i).1) → H b = some (.tbl #[]) := fun b ⟨i, hi, e⟩ => by rw [e]; exact hT i hi
  let F0 : Hp := fun b => if ∃ i, i < n ∧ b = (T.tb i).1 then none else H b
  have li : ∀ {m : Nat} {b : Addr}, ((List.range n).map fun i => (T.tb i).1)[m]? = some b → m < n ∧ b = (T.tb m).1 := fun {m b} h => by
    rw [List.getElem?_map] at h
    by_cases c1 : m < n
    · rw [List.getElem?_range c1] at h
      exact ⟨c1, (Option.some.inj h).symm⟩
    · rw [List.getElem?_eq_none (by simpa using c1)] at h
      cases h
  have R : RelH T (fun _ => none) ((List.range n).map fun i => (T.tb i).1) F0 (tbls n) H := by
    refine ⟨fun b o h => ?_, fun _ _ h => (by cases h), fun _ _ h => (by cases h), by simp [tbls], fun m c b h1 h2 => ?_, fun _ _ _ _ _ _ => rfl, fun m k c c' b h1 h2 _ _ h3 h4 => ?_⟩
    · show H b = some o
      have h' : (if ∃ i, i < n ∧ b = (T.tb i).1 then none else H b) = some o := h
      split at h'
      · cases h'
      · exact h'
    · obtain ⟨hm, rfl⟩ := tbls_at h1
      obtain ⟨_, rfl⟩ := li h2
      refine ⟨if_pos ⟨m, hm, rfl⟩, rfl, #[], hT m hm, True.intro, fun pos cv z => ?_⟩
      have z : codeAmong pos [] = some cv := z
      simp [codeAmong] at z
    · obtain ⟨hm, _⟩ := tbls_at h1
      obtain ⟨hk, _⟩ := tbls_at h2
      obtain ⟨_, e1⟩ := li h3
      obtain ⟨_, e2⟩ := li h4
      exact nd m k hm hk (by rw [← e1, ← e2])
  have S0 : SqL T.K F0 a (ns.map V.int) := by
    rcases hS with h | h
    · have key : ∀ {o : HO}, H a = some o → (∀ ps, o ≠ .tbl ps) → F0 a = some o := fun {o} e ne => by
        have q : ¬ ∃ i, i < n ∧ a = (T.tb i).1 := fun z => by
          have := isT a z
          rw [e] at this
          exact ne _ (Option.some.inj this)
        exact (if_neg q).trans e
      rcases h with h | ⟨o, h⟩
      · exact .inl (.inl (key h fun ps z => by cases z))
      · exact .inl (.inr ⟨o, key h fun ps z => by cases z⟩)
    · exact .inr h
  obtain ⟨s', h⟩ := h
  refine ⟨rfl, fun _ => none, _, F0, tbls n, [.scr ns], R, .cons (by unfold Rp; exact ⟨a, rfl, S0⟩) .nil, ?_⟩
  rw [h]
  intro v H' ι' F' g R r
  unfold Rp at r
  exact r
theorem law_walksL {l : PySem.W.OpenLaw} {k : Nat} {q : Program} {lo : List Str} {XP : (Str → Option Value) → Heap → Prop} {YP : World → Heap → Prop} {d : DefRec} {x : Str} (hm : l.most = some 63) (hdf : d.params.defaults = []) (room : Room k callerA)
    (F : ∀ (w : World) (mg : Str → Option Value) (fa : Addr) (h : Heap), YP w h → h.Ns mainGlobals mg → mg d.name = some (.ref fa) →
      ∃ (T : Tb) (fa' : List He.Fa) (fn : List He.DefD) (tf : List He.Defn) (ex : PySem.W.Frag → Bool) (fd : FuncData) (φ : List D → Sto → Res D), T.K.In h ∧ SaysL fa' fn tf ex h T.K ∧ (∀ i, i < tf.length → ∃ p, tf[i]? = some p ∧ (T.tb i).1 = (He.cT T.K p).2) ∧ (∀ (s : Shared) (u : Value), BindsTo s fd ⟨[u], []⟩ [(x, u)]) ∧
        (∀ ns : List Int, ns.length ≤ 63 → ∃ s', φ [.scr ns] (tbls tf.length) = .ok (.bl true) s') ∧
        ∀ base : Heap, T.K.In base → base.Ns mainGlobals mg → (∀ p ∈ tf, LamX.TabB base mg (He.cT T.K p).1 (He.cT T.K p).2) → FnOk l.prog w T.K mg base (L2.CX l.prog w) k fa fd [x] (spD T 1 φ)) :
    PySem.W.WalkO q lo XP YP l.row.toRowW d [] (fun f vs => PySem.call f vs) := by
  refine LamX.walk_ofTsE (l := l) (n := 63) (k := k) (x := x) (CX := fun w => L2.CX l.prog w) hm (by rw [sizeLine_eq]; decide) hdf room (fun w mg fa h Y G hmg => ?_) fun w H s e s' z => cx_none z
  obtain ⟨T, fa', fn, tf, ex, fd, φ, KX, c, ht, bi, pr, fn'⟩ := F w mg fa h Y G hmg
  have addr : ∀ i, i < tf.length → ∃ p ∈ tf, (T.tb i).1 = (He.cT T.K p).2 := fun i hi => by
    obtain ⟨p, e1, e2⟩ := ht i hi
    exact ⟨p, List.mem_of_getElem? e1, e2⟩
  refine ⟨T.K, KX, fd, tf.map (He.cT T.K), spD T 1 φ, fun p hp => ?_, fun p hp => ?_, fun p hp => ?_, bi, fun H a ns hl _ hH hS => ?_, fun base X G tbs => ?_⟩
  · obtain ⟨z, hz, rfl⟩ := List.mem_map.mp hp
    exact c.empty z hz
  · obtain ⟨z, hz, rfl⟩ := List.mem_map.mp hp
    exact c.out z hz
  · obtain ⟨z, hz, rfl⟩ := List.mem_map.mp hp
    exact PySem.W.codeHd_of_K KX (c.hd z hz)
  · refine law_endL (fun i hi => ?_) (fun i j hi hj e => ?_) hS (pr ns hl)
    · obtain ⟨p, hp, e⟩ := addr i hi
      rw [e]
      exact hH _ (List.mem_map.mpr ⟨p, hp, rfl⟩)
    · obtain ⟨p, e1, e2⟩ := ht i hi
      obtain ⟨p', e3, e4⟩ := ht j hj
      have h1 : (tf.map fun p => (He.cT T.K p).2)[i]? = some (T.tb i).1 := by rw [List.getElem?_map, e1, e2]; rfl
      have h2 : (tf.map fun p => (He.cT T.K p).2)[j]? = some (T.tb i).1 := by rw [List.getElem?_map, e3, e, e4]; rfl
      have l1 : i < (tf.map fun p => (He.cT T.K p).2).length := by rw [List.length_map]; exact hi
      exact (List.getElem?_inj l1 c.nd).mp (h1.trans h2.symm)
  · exact fn' base X G fun p hp => tbs _ (List.mem_map.mpr ⟨p, hp, rfl⟩)
/-! ### what the def that got the lambda makes of it -/
theorem actD_eq {i : Nat} {d : D} {call : Sto → Res D} {δ : Env} {s : Sto} (h : δ[i]? = some (some d)) : actD i d call δ s = call s := if_pos h
theorem dLam_ok {kt n : Nat} {gd : DE → DS} {fb : DE} {δ : Env} {s : Sto} {r : Res D} (h : s[kt]? = some (.tbl kt)) (hr : ∀ d, lamF n gd d (fb δ) s = r) : dLam kt n gd fb δ s = r := by
  unfold dLam
  rw [if_pos ⟨h, fun a c q vs => (hr _).trans (hr _).symm⟩]
  exact hr _
end Mp
/-! # MpInD -/
namespace PySem.SeqAt
open AutoSeq1 (wpAny_loadPart')
open MeetsSeq MeetsSeq2 MeetsSeq3 SeqRoads2
theorem mp_dict_str (l : Addr) (o : Obj) (hc : o.cls = .type "dict") (b : Str) (u : Tok) :
    Meets (Builtin.«dict.__eq__» ⟨[.ref l, .str b u], []⟩) (fun _ R s => s.heap.get? l = some o ∧ R (.ok (.ret .notImplemented)) s) :=
  .of_wp fun prog w A R s h => by
    obtain ⟨hp, g, d, tk, os⟩ := s; obtain ⟨hl, h⟩ := h
    have f1 := F.sub_str_dict
    obtain ⟨oc, od, odt, osl⟩ := o
    simp only at hc
    subst hc
    wp_walk using wpAny_loadPart' hl
    exact ⟨_, rfl, h⟩
theorem mp_str_dict (l : Addr) (od : Option Addr) (es : Array DictEntry) (ep : Nat) (osl : Array (Option Value)) (b : Str) (u : Tok) :
    Meets (Builtin.«str.__eq__» ⟨[.str b u, .ref l], []⟩) (fun _ R s => s.heap.get? l = some ⟨.type "dict", od, .dict es ep, osl⟩ ∧ R (.ok (.ret .notImplemented)) s) :=
  .of_wp fun prog w A R s h => by
    obtain ⟨hp, g, d, tk, os⟩ := s; obtain ⟨hl, h⟩ := h
    have f1 := F.sub_dict_str
    wp_walk using wpAny_loadPart' hl, wpAny_load hl
    exact ⟨_, rfl, h⟩
theorem mp_eq_sd {A : Around} {s : Shared} {l : Addr} {o : Obj} (b : Str) (u : Tok) {es : Array DictEntry} {ep : Nat} (ho : s.heap.get? l = some o) (hc : o.cls = .type "dict") (hd : o.data = .dict es ep) (hu : A.units < cLine) : EqAt A s (.str b u) (.ref l) false := fun prog w E Q h => by
  obtain ⟨oc, od, odt, osl⟩ := o
  simp only at hc hd
  subst hc hd
  unfold eqBool
  refine wpAny_holding ?_
  refine wpAny_ite_split (fun hab => absurd (eq_of_beq hab) nofun) (fun _ => ?_)
  refine wpAny_bind (rc_eq_decline_or (k := false) (typeIs_str s b u) ⟨_, ho, rfl⟩ (by decide) F.sub_dict_str F.slot_str_eq F.slot_dict_eq_refl
    (fun _ hq => call_meets F.slot_str_eq (typeIs_str s b u) F.entry_str_eq (F.args_str_eq_2 _ _) (mp_str_dict l od es ep osl b u) ⟨ho, hq⟩)
    (fun _ hq => call_meets F.slot_dict_eq_refl ⟨_, ho, rfl⟩ F.entry_dict_eq (F.args_dict_eq_2 _ _) (mp_dict_str l _ rfl b u) ⟨ho, hq⟩)
    (fun _ hq => wpAny_of_eq (rfl : isSame (.str b u) (.ref l) = pure false) hq) (.inr hu) (wpAny_truthy_bool h))
end PySem.SeqAt
namespace Mp
open PySem PySem.Spec PyProof.Rows L2
/-! ## a dict among texts -/
def rInY (K : PySem.W.Frag) (neg : Bool) : R2 := fun x y H Q => ∃ (d : Addr) (kvs : List (Key × V)) (t : Addr) (ys : List Str), x = .ref d ∧ Rd H d (.dK kvs) ∧ y = .ref t ∧ SqT K H t (ys.map V.str) ∧ Q (.bl neg) H
theorem op_inY {X : Cx} (neg : Bool) (hu : X.A.units + 64 < cLine) : OpR X (compareOp (if neg then .NotIn else .In)) (rInY X.K neg) := by
  intro pins s σ H x y v u Q I rx ry h
  obtain ⟨d, kvs, t, ys, rfl, hd, rfl, ht, q⟩ := h
  cases (show v = Value.ref d from rx)
  cases (show u = Value.ref t from ry)
  obtain ⟨_, _, vs, _, o, es, ep, g1, g2, g3, _⟩ := dk_rd I.hok hd
  obtain ⟨its, rv, pl, _⟩ := I.tuple ht
  have all : ∀ y, y ∈ its.toArray → SeqAt.EqAt X.A.in1 s y (.ref d) false := fun y hy => by
    obtain ⟨j, hj, e⟩ := List.getElem_of_mem (show y ∈ its by simpa using hy)
    have l := rv.length
    have hj2 : j < (ys.map V.str).length := by omega
    obtain ⟨w, e1, e2⟩ := rv.get (List.getElem?_eq_getElem hj2)
    rw [List.getElem?_eq_getElem hj, e] at e1
    cases e1
    rw [List.getElem_map] at e2
    obtain ⟨tk, rfl⟩ := e2
    exact SeqAt.mp_eq_sd _ tk g1 g2.1 g3 (by show X.A.units + 1 < cLine; omega)
  have no : its.toArray.any (fun _ => false) = false := by simp
  cases neg with
  | false => exact SeqAt.in_tupleAt (fun _ => false) (show s.heap.IsTuple t its.toArray from pl) all (by rw [no]; exact ⟨.bl _, H, I, rfl, q⟩)
  | true => exact SeqAt.notIn_tupleAt (fun _ => false) (show s.heap.IsTuple t its.toArray from pl) all (by rw [no]; exact ⟨.bl _, H, I, rfl, q⟩)
def strsD : List D → Bool
  | [] => true
  | .str _ :: r => strsD r
  | _ => false
theorem strsD_ok {T : Tb} {F : Hp} {ι : List Addr} : ∀ {ys : List D} {vs : List V}, Rps T F ι ys vs → strsD ys = true → ∃ zs : List Str, vs = zs.map V.str
  | [], vs, r, _ => by unfold Rps at r; exact ⟨[], r⟩
  | y :: ys, vs, r, h => by
    unfold Rps at r
    obtain ⟨v, us, rfl, r1, r2⟩ := r
    cases y with
    | str z =>
      obtain ⟨zs, rfl⟩ := strsD_ok r2 h
      unfold Rp at r1
      exact ⟨S z :: zs, by rw [r1]; rfl⟩
    | _ => cases h
def oInY (neg : Bool) : DOp
  | .dct _ _, .tup ys, s => if strsD ys = true then .ok (.bl neg) s else .stuck
  | x, y, s => oInX neg x y s
theorem do_inY {T : Tb} {neg : Bool} : DenOp T (orR (rInX T.K neg) (rInY T.K neg)) (oInY neg) := by
  intro x y dx dy H P ι F s Q E R rx ry post
  unfold oInY at post
  split at post
  · split at post
    · rename_i ks xs ys _ hs
      unfold Rp at rx ry
      obtain ⟨a, kvs, rfl, q, _⟩ := rx
      obtain ⟨b, vs, rfl, q2, r2⟩ := ry
      obtain ⟨zs, rfl⟩ := strsD_ok r2 hs
      exact .inr ⟨a, kvs, b, zs, rfl, rd_mono R.sub q, rfl, .inl (.inl (R.sub _ _ q2)), post.here R (by unfold Rp; rfl)⟩
    · exact post.elim
  · exact .inl (do_inX _ _ _ _ _ _ _ _ _ _ _ R rx ry post)
theorem op_inZ {X : Cx} (hu : X.A.units + 64 < cLine) : OpR X (compareOp .In) (orR (rInX X.K false) (rInY X.K false)) := OpR.or (op_inX hu) (op_inY false hu)
theorem op_notInZ {X : Cx} (hu : X.A.units + 64 < cLine) : OpR X (compareOp .NotIn) (orR (rInX X.K true) (rInY X.K true)) := OpR.or (op_notInX hu) (op_inY true hu)
end Mp
/-! # MpUnp -/
namespace Mp
open PySem PySem.Spec L2
/-! a, b, .. = a list -/
def tgL (ts : List DTg) : DTg := fun d δ => match d with
  | .lst xs => tgs ts xs δ
  | _ => none
section
variable {T : Tb} {X : Cx}
theorem g_lst {es : List Expr} {k : Nat} {pos : Pos} {ws : List Nat} {fs : List DTg} (h : PDgs T X es ws fs) (hn : (assignEach es X.env).length = fs.length := by rfl) (hst : (assignEach es X.env).findIdx? (·.1) = none := by rfl) (hc : X.calm = true := by rfl) (hK : X.K = T.K := by rfl) : PDg T X (.Tuple es k pos) ws (tgL fs) := fun pn xe => by
  obtain ⟨g1, p1, d1⟩ := h pn xe
  refine ⟨_, pg_lst (X := X.tr pn xe) hc p1 hn hst, fun σ H P ι F δ δ' s d v Q R E r e k => ?_⟩
  cases d with
  | lst xs =>
    obtain ⟨a, vs, rfl, h1, h2⟩ := lq_of R r (show lqOf s (.lst xs) = some xs from rfl)
    have e' : tgs fs xs δ = some δ' := e
    have hK' : (X.tr pn xe).K = T.K := hK
    refine ⟨a, vs, rfl, by rw [hK']; exact h1, ?_, d1 _ _ _ _ _ _ _ _ _ _ _ R E h2 e' k⟩
    rw [← h2.len]
    exact tgs_len e'
  | _ => cases e
end
@[simp] theorem tgL_eq {ts : List DTg} {xs : List D} {δ : Env} : tgL ts (.lst xs) δ = tgs ts xs δ := rfl
end Mp
/-! # MpStr -/
namespace Mp
open PySem PySem.Spec L2
/-! a.strip(b) -/
def mStripC : DM
  | .str a, [.str b], s => if a.length ≤ lim then .ok (.str (un (Txt.stripChars (S a) (S b)))) s else .stuck
  | _, _, _ => .stuck
theorem dm_stripC {T : Tb} : DenM T (fun x xs H Q => ∃ a b, x = .str a ∧ xs = [.str b] ∧ a.length ≤ sizeLine ∧ Q (.str (Txt.stripChars a b)) H) mStripC := by
  intro d ds v vs H P ι F s Q E R r rs post
  unfold mStripC at post
  split at post
  · obtain ⟨u, rfl, h1⟩ := rps1 rs
    unfold Rp at r h1
    split at post
    · rename_i hc
      exact ⟨_, _, r, by rw [h1], by rw [S_len]; exact lim_le hc, post.here R (by unfold Rp; rw [S_un])⟩
    · exact post.elim
  · exact post.elim
end Mp
/-! # MpDeep -/
namespace Mp
open PySem PySem.Spec PyProof.Rows L2
/-! ## a slot's cells, and those within, stay as they are from now on; dicts are locked for good -/
/-- things are locked one behind the other -/
inductive LkT (G : Hp → Prop) : Hp → Prop
  | done {H : Hp} : G H → LkT G H
  | lock {H : Hp} (d : Addr) (u : HO) : H d = some u → Mut (some u) → (∀ od, LkT G (upd H d (.frz od u))) → LkT G H
theorem LkT.bind {G G' : Hp → Prop} {H : Hp} (h : LkT G H) (k : ∀ H', G H' → LkT G' H') : LkT G' H := by
  induction h with
  | done q => exact k _ q
  | lock d u hd mu _ ih => exact .lock d u hd mu ih
theorem pss_lk {X : Cx} {ss : List Stmt} {t : TS} (h : PSs X ss t) : PSs X ss (fun D σ H => LkT (t D σ) H) := by
  refine ⟨fun pins s σ H D I hw => ?_⟩
  induction hw with
  | done q => exact h.run pins s σ _ D I q
  | lock d u hd mu _ ih =>
    obtain ⟨od, I1⟩ := I.lock hd mu
    exact ih od I1
def frzW (f : D → Sto → Option (D × Sto)) : List D → Sto → Option (List D × Sto)
  | [], s => some ([], s)
  | x :: xs, s => match f x s with
    | some (x', s1) => match frzW f xs s1 with
      | some (xs', s2) => some (x' :: xs', s2)
      | none => none
    | none => none
/-- a cell with other things in it, as a value -/
def Cell.val : Cell → List D → Option D
  | .lst _, xs => some (.lst xs)
  | .dct ks _, xs => some (.dcL ks xs)
  | .dcT ks _, xs => some (.dcT ks xs)
  | .obj c ns _, xs => some (.obj c ns xs)
  | _, _ => none
def Cell.has' : Cell → List D
  | .lst xs => xs
  | .dct _ xs => xs
  | .dcT _ xs => xs
  | .obj _ _ xs => xs
  | _ => []
def frzT : Nat → D → Sto → Option (D × Sto)
  | 0, _, _ => none
  | k + 1, .loc n, s => match s[n]? with
    | some c => match frzW (frzT k) c.has' (s.set n .dead) with
      | some (xs, s1) => match c.val xs with
        | some d => some (d, s1)
        | none => none
      | none => none
    | none => none
  | k + 1, .tup xs, s => match frzW (frzT k) xs s with
    | some (ys, s1) => some (.tup ys, s1)
    | none => none
  | k + 1, .lst xs, s => match frzW (frzT k) xs s with
    | some (ys, s1) => some (.lst ys, s1)
    | none => none
  | k + 1, .dcL ks xs, s => match frzW (frzT k) xs s with
    | some (ys, s1) => some (.dcL ks ys, s1)
    | none => none
  | k + 1, .dcT ks xs, s => match frzW (frzT k) xs s with
    | some (ys, s1) => some (.dcT ks ys, s1)
    | none => none
  | k + 1, .obj c ns xs, s => match frzW (frzT k) xs s with
    | some (ys, s1) => some (.obj c ns ys, s1)
    | none => none
  | _ + 1, d, s => some (d, s)
section
variable {T : Tb} {X : Cx}
theorem cell_none {ι : List Addr} {F H : Hp} {a : Addr} {c : Cell} (h : CellAt T ι F H a c) (hl : c.live = true) : F a = none := by
  cases c with
  | dead => cases hl
  | lst _ => exact h.1
  | dct _ _ => exact h.1
  | dcT _ _ => exact h.1
  | obj _ _ _ => exact h.1
  | tbl _ => exact h.1
theorem RelH.holdC {P : Hp} {ι : List Addr} {F : Hp} {s : Sto} {H : Hp} (R : RelH T P ι F s H) {n : Nat} {a : Addr} {c : Cell} {o : HO} (hs : s[n]? = some c) (hl : c.live = true) (hi : ι[n]? = some a) (h1 : H a = some o) : P a = none ∧ RelH T (upd P a o) ι F (s.set n .dead) H := by
  have hF := cell_none (R.cell _ _ _ hs hi) hl
  have hP := R.npr _ _ _ hs hl hi
  have hn := (List.getElem?_eq_some_iff.mp hs).1
  have at_ : ∀ {m : Nat} {d : Cell}, (s.set n .dead)[m]? = some d → d.live = true → m ≠ n ∧ s[m]? = some d := fun {m d} h l => by
    by_cases e : n = m
    · subst e
      rw [List.getElem?_set_self hn] at h
      cases h
      cases l
    · rw [List.getElem?_set_ne e] at h
      exact ⟨fun z => e z.symm, h⟩
  have ne : ∀ {m : Nat} {d : Cell} {b : Addr}, (s.set n .dead)[m]? = some d → d.live = true → ι[m]? = some b → b ≠ a := fun {m d b} h l hb z => by
    subst z
    obtain ⟨h3, h4⟩ := at_ h l
    exact h3 (R.nod m n d _ b h4 hs l hl hb hi)
  refine ⟨hP, ⟨R.sub, fun b u h => ?_, fun b u h => ?_, by simp [R.len], fun m d b h3 h4 => ?_, fun m d b h3 l h4 => ?_, fun m k c1 c2 b h3 h4 l1 l2 h5 h6 => R.nod m k c1 c2 b (at_ h3 l1).2 (at_ h4 l2).2 l1 l2 h5 h6⟩⟩
  · by_cases e : b = a
    · subst e; rw [upd_same] at h; cases h; exact h1
    · rw [upd_ne e] at h; exact R.pro b u h
  · by_cases e : b = a
    · subst e; exact hF
    · rw [upd_ne e] at h; exact R.dis b u h
  · cases hd : d.live with
    | false =>
      cases d with
      | dead => trivial
      | _ => cases hd
    | true => exact R.cell m d b (at_ h3 hd).2 h4
  · rw [upd_ne (ne h3 l h4)]; exact R.npr m d b (at_ h3 l).2 l h4
/-- what stands at a cell's place -/
theorem cell_val {ι : List Addr} {F H : Hp} {a : Addr} {c : Cell} {xs : List D} {d : D} (h : CellAt T ι F H a c) (hv : c.val xs = some d) : c.live = true ∧ ∃ o vs, H a = some o ∧ Rps T F ι c.has' vs ∧
    ((∀ F', (∀ b u, F b = some u → F' b = some u) → F' a = some o → Rps T F' ι xs vs → Rp T F' ι d (.ref a)) ∨ (Mut (some o) ∧ ∀ od F', (∀ b u, F b = some u → F' b = some u) → F' a = some (.frz od o) → Rps T F' ι xs vs → Rp T F' ι d (.ref a))) := by
  cases c with
  | lst ys =>
    cases hv
    obtain ⟨_, vs, h1, h2⟩ := h
    exact ⟨rfl, _, vs, h1, h2, .inl fun F' _ e r => by unfold Rp; exact ⟨a, vs, rfl, e, r⟩⟩
  | dct ks ys =>
    cases hv
    obtain ⟨_, kvs, h1, h2, h3⟩ := h
    exact ⟨rfl, _, _, h1, h3, .inr ⟨trivial, fun od F' _ e r => by unfold Rp; exact ⟨a, od, kvs, rfl, e, h2, r⟩⟩⟩
  | dcT ks ys =>
    cases hv
    obtain ⟨_, kvs, h1, hk, h2, h3⟩ := h
    exact ⟨rfl, _, _, h1, h3, .inr ⟨trivial, fun od F' g e r => by unfold Rp; exact ⟨a, od, kvs, rfl, e, hk.mono g, h2, r⟩⟩⟩
  | obj k ns ys =>
    cases hv
    obtain ⟨_, dx, fs, h1, h2, h3⟩ := h
    exact ⟨rfl, _, _, h1, h3, .inl fun F' _ e r => by unfold Rp; exact ⟨a, dx, fs, rfl, e, h2, r⟩⟩
  | _ => cases hv
abbrev FrzOk (T : Tb) (ι : List Addr) (f : D → Sto → Option (D × Sto)) : Prop := ∀ {P F H : Hp} {s s' : Sto} {d d' : D} {v : V} {G : Hp → Prop}, RelH T P ι F s H → Rp T F ι d v → f d s = some (d', s') → (∀ F' H', Grow F ι F' ι → RelH T P ι F' s' H' → Rp T F' ι d' v → G H') → LkT G H
theorem frzW_ok {ι : List Addr} {f : D → Sto → Option (D × Sto)} (hf : FrzOk T ι f) : ∀ {xs xs' : List D} {vs : List V} {P F H : Hp} {s s' : Sto} {G : Hp → Prop}, RelH T P ι F s H → Rps T F ι xs vs → frzW f xs s = some (xs', s') → (∀ F' H', Grow F ι F' ι → RelH T P ι F' s' H' → Rps T F' ι xs' vs → G H') → LkT G H
  | [], _, _, _, F, _, _, _, _, R, r, h, k => by
    unfold frzW at h
    cases h
    exact .done (k F _ (Grow.refl _ _) R r)
  | x :: xs, xs', vs, P, F, H, s, s', G, R, r, h, k => by
    unfold Rps at r
    obtain ⟨v, us, rfl, r1, r2⟩ := r
    unfold frzW at h
    cases h1 : f x s with
    | none => rw [h1] at h; cases h
    | some p =>
      obtain ⟨x', s1⟩ := p
      rw [h1] at h
      dsimp only at h
      cases h2 : frzW f xs s1 with
      | none => rw [h2] at h; cases h
      | some p =>
        obtain ⟨ys, s2⟩ := p
        rw [h2] at h
        cases h
        refine (hf (G := fun H1 => LkT G H1) R r1 h1 fun F1 H1 g1 R1 q1 => ?_).bind fun _ q => q
        exact frzW_ok hf R1 (r2.mono g1) h2 fun F2 H2 g2 R2 q2 => k F2 H2 (g1.trans g2) R2 (.cons (q1.mono g2) q2)
theorem frzT_ok {ι : List Addr} : ∀ (k : Nat) {P F H : Hp} {s s' : Sto} {d d' : D} {v : V} {G : Hp → Prop}, RelH T P ι F s H → Rp T F ι d v → frzT k d s = some (d', s') → (∀ F' H', Grow F ι F' ι → RelH T P ι F' s' H' → Rp T F' ι d' v → G H') → LkT G H
  | 0, _, _, _, _, _, _, _, _, _, _, _, h, _ => nomatch h
  | k + 1, P, F, H, s, s', d, d', v, G, R, r, h, K => by
    have ih : FrzOk T ι (frzT k) := fun {_ _ _ _ _ _ _ _ _} R r h K => frzT_ok k R r h K
    cases d with
    | loc n =>
      unfold Rp at r
      obtain ⟨a, e1, rfl⟩ := r
      unfold frzT at h
      cases hc : s[n]? with
      | none => rw [hc] at h; cases h
      | some c =>
        rw [hc] at h
        dsimp only at h
        cases hw : frzW (frzT k) c.has' (s.set n .dead) with
        | none => rw [hw] at h; cases h
        | some p =>
          obtain ⟨xs, s1⟩ := p
          rw [hw] at h
          dsimp only at h
          cases hv : c.val xs with
          | none => rw [hv] at h; cases h
          | some d2 =>
            rw [hv] at h
            cases h
            obtain ⟨hl, o, vs, q1, q2, q3⟩ := cell_val (R.cell n c a hc e1) hv
            obtain ⟨hP, R1⟩ := R.holdC hc hl e1 q1
            refine (frzW_ok ih (G := fun H1 => LkT G H1) R1 q2 hw fun F1 H1 g1 R2 q4 => ?_).bind fun _ q => q
            have hF1 : F1 a = none := R2.dis a o upd_same
            rcases q3 with q3 | ⟨mu, q3⟩
            · have g2 : Grow F1 ι (upd F1 a o) ι := grow_new hF1 o
              exact .done (K _ _ (g1.trans g2) (R2.thaw hP) (q3 _ (g1.trans g2).1 upd_same (q4.mono g2)))
            · refine .lock a o (R2.pro a o upd_same) mu fun od => .done ?_
              have R3 := R2.setP (p := a) upd_same (.frz od o)
              rw [upd_upd] at R3
              have g2 : Grow F1 ι (upd F1 a (.frz od o)) ι := grow_new hF1 _
              exact K _ _ (g1.trans g2) (R3.thaw hP) (q3 od _ (g1.trans g2).1 upd_same (q4.mono g2))
    | tup xs =>
      unfold Rp at r
      obtain ⟨a, vs, rfl, q, r⟩ := r
      unfold frzT at h
      cases hw : frzW (frzT k) xs s with
      | none => rw [hw] at h; cases h
      | some p =>
        obtain ⟨ys, s1⟩ := p
        rw [hw] at h
        cases h
        exact frzW_ok ih R r hw fun F1 H1 g1 R1 q1 => K _ _ g1 R1 (by unfold Rp; exact ⟨a, vs, rfl, g1.1 _ _ q, q1⟩)
    | lst xs =>
      unfold Rp at r
      obtain ⟨a, vs, rfl, q, r⟩ := r
      unfold frzT at h
      cases hw : frzW (frzT k) xs s with
      | none => rw [hw] at h; cases h
      | some p =>
        obtain ⟨ys, s1⟩ := p
        rw [hw] at h
        cases h
        exact frzW_ok ih R r hw fun F1 H1 g1 R1 q1 => K _ _ g1 R1 (by unfold Rp; exact ⟨a, vs, rfl, g1.1 _ _ q, q1⟩)
    | dcL ks xs =>
      unfold Rp at r
      obtain ⟨a, o, kvs, rfl, q, q0, r⟩ := r
      unfold frzT at h
      cases hw : frzW (frzT k) xs s with
      | none => rw [hw] at h; cases h
      | some p =>
        obtain ⟨ys, s1⟩ := p
        rw [hw] at h
        cases h
        exact frzW_ok ih R r hw fun F1 H1 g1 R1 q1 => K _ _ g1 R1 (by unfold Rp; exact ⟨a, o, kvs, rfl, g1.1 _ _ q, q0, q1⟩)
    | dcT ks xs =>
      unfold Rp at r
      obtain ⟨a, o, kvs, rfl, q, qk, q0, r⟩ := r
      unfold frzT at h
      cases hw : frzW (frzT k) xs s with
      | none => rw [hw] at h; cases h
      | some p =>
        obtain ⟨ys, s1⟩ := p
        rw [hw] at h
        cases h
        exact frzW_ok ih R r hw fun F1 H1 g1 R1 q1 => K _ _ g1 R1 (by unfold Rp; exact ⟨a, o, kvs, rfl, g1.1 _ _ q, qk.mono g1.1, q0, q1⟩)
    | obj c ns xs =>
      unfold Rp at r
      obtain ⟨a, dx, fs, rfl, q, q0, r⟩ := r
      unfold frzT at h
      cases hw : frzW (frzT k) xs s with
      | none => rw [hw] at h; cases h
      | some p =>
        obtain ⟨ys, s1⟩ := p
        rw [hw] at h
        cases h
        exact frzW_ok ih R r hw fun F1 H1 g1 R1 q1 => K _ _ g1 R1 (by unfold Rp; exact ⟨a, dx, fs, rfl, g1.1 _ _ q, q0, q1⟩)
    | _ => cases h; exact .done (K F _ (Grow.refl _ _) R r)
def sFrzT (i : Nat) : DS := fun δ s => match δ[i]? with
  | some (some d) => match frzT 20 d s with
    | some (d', s') => .nx (δ.set i (some d')) s'
    | none => .nx δ s
  | _ => .nx δ s
/-- ahead of the rest of a block -/
theorem b_frzT {rest : List Stmt} {g : DS} (i : Nat) (h : PDb T X rest g) : PDb T X rest (sSeq (sFrzT i) g) := fun pn xe W tk ow => by
  obtain ⟨t1, p1, d1⟩ := h pn xe W tk ow
  refine ⟨_, pss_lk p1, fun En σ H P ι F δ s R E post => ?_⟩
  unfold sSeq sFrzT at post
  cases q : δ[i]? with
  | none => rw [q] at post; exact .done (d1 _ _ _ _ _ _ _ _ R E post)
  | some o =>
    cases o with
    | none => rw [q] at post; exact .done (d1 _ _ _ _ _ _ _ _ R E post)
    | some d =>
      rw [q] at post
      dsimp only at post
      cases hz : frzT 20 d s with
      | none => rw [hz] at post; exact .done (d1 _ _ _ _ _ _ _ _ R E post)
      | some z =>
        obtain ⟨d', s'⟩ := z
        rw [hz] at post
        obtain ⟨v, e1, e2⟩ := E.at_ i d q
        refine frzT_ok 20 R e2 hz fun F' H' g' R' r' => ?_
        have E' := (E.mono g').set r' i
        have hl := (List.getElem?_eq_some_iff.mp e1).1
        have es : σ.set i (some v) = σ := by
          refine List.ext_getElem? fun j => ?_
          by_cases c : i = j
          · subst c; rw [List.getElem?_set_self hl, e1]
          · rw [List.getElem?_set_ne c]
        rw [es] at E'
        exact d1 _ _ _ _ _ _ _ _ R' E' (PostS.mono g' post)
/-! ### rows -/
theorem frzT_cell {k n : Nat} {c : Cell} {s s1 : Sto} {xs : List D} {d : D} (h1 : s[n]? = some c) (h2 : frzW (frzT k) c.has' (s.set n .dead) = some (xs, s1)) (h3 : c.val xs = some d) : frzT (k + 1) (.loc n) s = some (d, s1) := by
  unfold frzT
  rw [h1]
  dsimp only
  rw [h2]
  dsimp only
  rw [h3]
/-- nothing in it is a cell, so deep -/
def shut : Nat → D → Bool
  | 0, _ => false
  | _ + 1, .loc _ => false
  | k + 1, .tup xs => xs.all (shut k)
  | k + 1, .lst xs => xs.all (shut k)
  | k + 1, .dcL _ xs => xs.all (shut k)
  | k + 1, .dcT _ xs => xs.all (shut k)
  | k + 1, .obj _ _ xs => xs.all (shut k)
  | _ + 1, .dct _ _ => false
  | _ + 1, .fn _ _ _ _ _ => false
  | _ + 1, _ => true
theorem frzW_id {f : D → Sto → Option (D × Sto)} {s : Sto} : ∀ {xs : List D}, (∀ x ∈ xs, f x s = some (x, s)) → frzW f xs s = some (xs, s)
  | [], _ => rfl
  | x :: xs, h => by
    unfold frzW
    rw [h x List.mem_cons_self]
    dsimp only
    rw [frzW_id fun y hy => h y (List.mem_cons_of_mem _ hy)]
theorem frzT_id : ∀ {k : Nat} {d : D} {s : Sto}, shut k d = true → frzT k d s = some (d, s)
  | 0, _, _, h => nomatch h
  | k + 1, d, s, h => by
    have ih : ∀ {xs : List D}, xs.all (shut k) = true → frzW (frzT k) xs s = some (xs, s) := fun {xs} h => frzW_id fun x hx => frzT_id (List.all_eq_true.mp h x hx)
    cases d with
    | loc _ => cases h
    | dct _ _ => cases h
    | fn _ _ _ _ _ => cases h
    | tup xs => unfold frzT; rw [ih h]
    | lst xs => unfold frzT; rw [ih h]
    | dcL _ xs => unfold frzT; rw [ih h]
    | dcT _ xs => unfold frzT; rw [ih h]
    | obj _ _ xs => unfold frzT; rw [ih h]
    | _ => rfl
theorem frzW_shut {k : Nat} {xs : List D} {s : Sto} (h : xs.all (shut k) = true) : frzW (frzT k) xs s = some (xs, s) := frzW_id fun x hx => frzT_id (List.all_eq_true.mp h x hx)
theorem frzW_cons {f : D → Sto → Option (D × Sto)} {x x' : D} {xs xs' : List D} {s s1 s2 : Sto} (h1 : f x s = some (x', s1)) (h2 : frzW f xs s1 = some (xs', s2)) : frzW f (x :: xs) s = some (x' :: xs', s2) := by
  unfold frzW
  rw [h1]
  dsimp only
  rw [h2]
theorem sFrzT_eq {i : Nat} {δ : Env} {s s' : Sto} {d d' : D} (h : δ[i]? = some (some d)) (k : frzT 20 d s = some (d', s')) : sFrzT i δ s = .nx (δ.set i (some d')) s' := by
  unfold sFrzT
  rw [h]
  dsimp only
  rw [k]
theorem shut_up : ∀ {k : Nat} {d : D}, shut k d = true → shut (k + 1) d = true
  | 0, _, h => nomatch h
  | k + 1, d, h => by
    have all : ∀ {xs : List D}, xs.all (shut k) = true → xs.all (shut (k + 1)) = true := fun {xs} h => List.all_eq_true.mpr fun x hx => shut_up (List.all_eq_true.mp h x hx)
    cases d with
    | tup xs => exact all h
    | lst xs => exact all h
    | dcL _ xs => exact all h
    | dcT _ xs => exact all h
    | obj _ _ xs => exact all h
    | loc _ => cases h
    | dct _ _ => cases h
    | fn _ _ _ _ _ => cases h
    | _ => rfl
theorem shut_le {k m : Nat} {d : D} (h : shut k d = true) (hm : k ≤ m) : shut m d = true := by
  obtain ⟨j, rfl⟩ : ∃ j, m = k + j := ⟨m - k, by omega⟩
  induction j with
  | zero => exact h
  | succ j ih => exact shut_up (ih (by omega))
theorem belows_all {n : Nat} : ∀ {xs : List D}, (∀ x ∈ xs, below n x = true) → belows n xs = true
  | [], _ => rfl
  | x :: xs, h => by
    show (below n x && belows n xs) = true
    rw [h x List.mem_cons_self, belows_all fun y hy => h y (List.mem_cons_of_mem _ hy)]
    rfl
theorem shut_below {n : Nat} : ∀ {k : Nat} {d : D}, shut k d = true → below n d = true
  | 0, _, h => nomatch h
  | k + 1, d, h => by
    have all : ∀ {xs : List D}, xs.all (shut k) = true → belows n xs = true := fun {xs} h => belows_all fun x hx => shut_below (List.all_eq_true.mp h x hx)
    cases d with
    | tup xs => exact all h
    | lst xs => exact all h
    | dcL _ xs => exact all h
    | dcT _ xs => exact all h
    | obj _ _ xs => exact all h
    | loc _ => cases h
    | dct _ _ => cases h
    | fn _ _ _ _ _ => cases h
    | _ => rfl
mutual
theorem below_mono {n m : Nat} (h : n ≤ m) : ∀ {d : D}, below n d = true → below m d = true
  | .loc j, b => by
    have : j < n := of_decide_eq_true b
    exact decide_eq_true (by omega)
  | .tup xs, b => belows_mono h (xs := xs) b
  | .lst xs, b => belows_mono h (xs := xs) b
  | .dct _ xs, b => belows_mono h (xs := xs) b
  | .dcL _ xs, b => belows_mono h (xs := xs) b
  | .dcT _ xs, b => belows_mono h (xs := xs) b
  | .obj _ _ xs, b => belows_mono h (xs := xs) b
  | .fn _ _ _ _ ds, b => belows_mono h (xs := ds) b
  | .non, _ => rfl
  | .bl _, _ => rfl
  | .int _, _ => rfl
  | .str _, _ => rfl
  | .scr _, _ => rfl
  | .exc _, _ => rfl
  | .cls _, _ => rfl
  | .ty _, _ => rfl
theorem belows_mono {n m : Nat} (h : n ≤ m) : ∀ {xs : List D}, belows n xs = true → belows m xs = true
  | [], _ => rfl
  | x :: xs, b => by
    have b' : (below n x && belows n xs) = true := b
    rw [Bool.and_eq_true] at b'
    show (below m x && belows m xs) = true
    rw [below_mono h b'.1, belows_mono h b'.2]
    rfl
end
theorem cellb_mono {n m : Nat} (h : n ≤ m) {c : Cell} (b : c.below n = true) : c.below m = true := by
  cases c with
  | lst xs => exact belows_mono h (xs := xs) b
  | dct _ xs => exact belows_mono h (xs := xs) b
  | dcT _ xs => exact belows_mono h (xs := xs) b
  | obj _ _ xs => exact belows_mono h (xs := xs) b
  | _ => rfl
theorem sb_app {s r : Sto} (hs : s.all (Cell.below s.length) = true) (hr : r.all (Cell.below (s.length + r.length)) = true) : (s ++ r).all (Cell.below (s ++ r).length) = true := by
  rw [List.all_append, List.length_append, hr, Bool.and_true]
  exact List.all_eq_true.mpr fun c hc => cellb_mono (by omega) (List.all_eq_true.mp hs c hc)
theorem shut_ints {k : Nat} (xs : List Int) : (xs.map D.int).all (shut (k + 1)) = true := List.all_eq_true.mpr fun d hd => by
  obtain ⟨x, _, rfl⟩ := List.mem_map.mp hd
  rfl
theorem belows_shut {n k : Nat} {xs : List D} (h : xs.all (shut k) = true) : belows n xs = true := belows_all fun x hx => shut_below (List.all_eq_true.mp h x hx)
end
end Mp
/-! # MpDT -/
namespace Mp
open PySem PySem.Spec PyProof.Rows L2
/-! ## dicts whose keys are tuples -/
def dtOf (s : Sto) : D → Option (List D × List D)
  | .dcT ks xs => some (ks, xs)
  | .loc n => match s[n]? with
    | some (.dcT ks xs) => some (ks, xs)
    | _ => none
  | _ => none
def keyA : D → Option (Option Key)
  | .non => some none
  | x => (keyD x).map some
def keysT : List D → Option NK
  | [] => some []
  | x :: xs => match keyA x, keysT xs with
    | some k, some ks => some (k :: ks)
    | _, _ => none
def keyT : D → Option NK
  | .tup xs => keysT xs
  | _ => none
/-- .. without None: by which lists are put in order -/
def keysK : List D → Option (List Key)
  | [] => some []
  | x :: xs => match keyD x, keysK xs with
    | some k, some ks => some (k :: ks)
    | _, _ => none
def keyK : D → Option (List Key)
  | .tup xs => keysK xs
  | _ => none
def eqA : D → D → Bool
  | .non, .non => true
  | x, y => eqK x y
def eqKs : List D → List D → Bool
  | [], [] => true
  | x :: xs, y :: ys => eqA x y && eqKs xs ys
  | _, _ => false
def eqT : D → D → Bool
  | .tup xs, .tup ys => eqKs xs ys
  | _, _ => false
def lkT (k : D) : List D → List D → Option D
  | c :: ks, x :: xs => if eqT c k = true then some x else lkT k ks xs
  | _, _ => none
def repT (k x : D) : List D → List D → List D
  | c :: ks, y :: ys => (if eqT c k = true then x else y) :: repT k x ks ys
  | _, _ => []
def setTv (k x : D) (ks xs : List D) : List D := if (ks.any fun c => eqT c k) = true then repT k x ks xs else xs ++ [x]
def setTk (k : D) (ks : List D) : List D := if (ks.any fun c => eqT c k) = true then ks else ks ++ [k]
section
variable {T : Tb}
theorem dt_of' {P : Hp} {ι : List Addr} {F : Hp} {s : Sto} {H : Hp} {d : D} {v : V} {ks xs : List D} (R : RelH T P ι F s H) (r : Rp T F ι d v) (h : dtOf s d = some (ks, xs)) :
    ∃ a kvs, v = .ref a ∧ Rd H a (DX T.hs a kvs) ∧ KeysAt H kvs ∧ ks = kvs.map (fun p => kDN p.1) ∧ Rps T F ι xs (kvs.map (·.2.2)) := by
  unfold dtOf at h
  split at h
  · cases h
    unfold Rp at r
    obtain ⟨a, o, kvs, e, q, qk, k, r⟩ := r
    exact ⟨a, kvs, e, .inr ⟨o, R.sub _ _ q⟩, qk.mono R.sub, k, r⟩
  · unfold Rp at r
    obtain ⟨a, e1, rfl⟩ := r
    split at h
    · rename_i hs
      cases h
      obtain ⟨_, kvs, h1, hk, h2, h3⟩ := R.cell _ _ _ hs e1
      exact ⟨a, kvs, rfl, .inl h1, hk.mono R.sub, h2, h3⟩
    · cases h
  · cases h
theorem keysK_cons {x : D} {xs : List D} {k : List Key} (h : keysK (x :: xs) = some k) : ∃ j js, keyD x = some j ∧ keysK xs = some js ∧ k = j :: js := by
  unfold keysK at h
  split at h
  · rename_i j js h1 h2
    cases h
    exact ⟨j, js, h1, h2, rfl⟩
  · cases h
theorem keysK_vals {F : Hp} {ι : List Addr} : ∀ {xs : List D} {vs : List V} {k : List Key}, Rps T F ι xs vs → keysK xs = some k → vs = k.map kV
  | [], vs, k, r, h => by unfold Rps at r; cases h; exact r
  | x :: xs, vs, k, r, h => by
    obtain ⟨j, js, h1, h2, rfl⟩ := keysK_cons h
    unfold Rps at r
    obtain ⟨v, us, rfl, r1, r2⟩ := r
    rw [key_of' r1 h1, keysK_vals r2 h2]
    rfl
theorem key_ofK {F : Hp} {ι : List Addr} {d : D} {v : V} {k : List Key} (r : Rp T F ι d v) (h : keyK d = some k) : ∃ b, v = .ref b ∧ F b = some (.tup (k.map kV)) := by
  unfold keyK at h
  split at h
  · unfold Rp at r
    obtain ⟨a, vs, e, q, r⟩ := r
    rw [keysK_vals r h] at q
    exact ⟨a, e, q⟩
  · cases h
theorem kDsK_all : ∀ {xs : List D} {k : List Key}, keysK xs = some k → xs = k.map kD
  | [], k, h => by cases h; rfl
  | x :: xs, k, h => by
    obtain ⟨a, b, h1, h2, rfl⟩ := keysK_cons h
    rw [kD_of h1, kDsK_all h2]
    rfl
theorem kDs_ofK {k : List Key} {d : D} (h : keyK d = some k) : d = kDs k := by
  unfold keyK at h
  split at h
  · unfold kDs
    rw [kDsK_all h]
  · cases h
theorem keyA_of {F : Hp} {ι : List Addr} {d : D} {v : V} {k : Option Key} (r : Rp T F ι d v) (h : keyA d = some k) : v = nV k := by
  unfold keyA at h
  split at h
  · cases h
    unfold Rp at r
    exact r
  · cases q : keyD d with
    | none => rw [q] at h; cases h
    | some j =>
      rw [q] at h
      cases h
      exact key_of' r q
theorem kDn_of {k : Option Key} {d : D} (h : keyA d = some k) : d = kDn k := by
  unfold keyA at h
  split at h
  · cases h; rfl
  · cases q : keyD d with
    | none => rw [q] at h; cases h
    | some j =>
      rw [q] at h
      cases h
      exact kD_of q
theorem eqA_kDn {j k : Option Key} {d : D} (h : keyA d = some k) : eqA (kDn j) d = decide (j = k) := by
  have hd := kDn_of h
  cases k with
  | none =>
    subst hd
    cases j with
    | none => rfl
    | some i => cases i <;> rfl
  | some k =>
    cases j with
    | none =>
      subst hd
      cases k <;> rfl
    | some i =>
      have q : keyD d = some k := by
        rw [hd]
        have : keyA (kDn (some k)) = some (some k) := by rw [← hd]; exact h
        cases k with
        | inl i => exact rfl
        | inr x =>
          have q : (keyD (kDn (some (.inr x)))).map some = some (some (Sum.inr x)) := this
          cases e : keyD (kDn (some (.inr x))) with
          | none => rw [e] at q; cases q
          | some y => rw [e] at q; cases q; rfl
      have e : eqA (kDn (some i)) d = eqK (kD i) d := by cases i <;> cases d <;> rfl
      rw [e, eqK_kD q]
      by_cases c : i = k <;> simp [c]
theorem keys_cons {x : D} {xs : List D} {k : NK} (h : keysT (x :: xs) = some k) : ∃ j js, keyA x = some j ∧ keysT xs = some js ∧ k = j :: js := by
  unfold keysT at h
  split at h
  · rename_i j js h1 h2
    cases h
    exact ⟨j, js, h1, h2, rfl⟩
  · cases h
theorem keys_vals {F : Hp} {ι : List Addr} : ∀ {xs : List D} {vs : List V} {k : NK}, Rps T F ι xs vs → keysT xs = some k → vs = k.map nV
  | [], vs, k, r, h => by unfold Rps at r; cases h; exact r
  | x :: xs, vs, k, r, h => by
    obtain ⟨j, js, h1, h2, rfl⟩ := keys_cons h
    unfold Rps at r
    obtain ⟨v, us, rfl, r1, r2⟩ := r
    rw [keyA_of r1 h1, keys_vals r2 h2]
    rfl
theorem key_ofT {F : Hp} {ι : List Addr} {d : D} {v : V} {k : NK} (r : Rp T F ι d v) (h : keyT d = some k) : ∃ b, v = .ref b ∧ F b = some (.tup (k.map nV)) := by
  unfold keyT at h
  split at h
  · unfold Rp at r
    obtain ⟨a, vs, e, q, r⟩ := r
    rw [keys_vals r h] at q
    exact ⟨a, e, q⟩
  · cases h
theorem eqKs_kD : ∀ {j k : NK} {xs : List D}, keysT xs = some k → eqKs (j.map kDn) xs = decide (j = k)
  | [], k, [], h => by cases h; rfl
  | [], k, x :: xs, h => by
    obtain ⟨a, b, _, _, rfl⟩ := keys_cons h
    rfl
  | i :: j, k, [], h => by
    cases h
    rfl
  | i :: j, k, x :: xs, h => by
    obtain ⟨a, b, h1, h2, rfl⟩ := keys_cons h
    show (eqA (kDn i) x && eqKs (j.map kDn) xs) = _
    rw [eqA_kDn h1, eqKs_kD h2]
    by_cases c : i = a <;> by_cases c2 : j = b <;> simp [c, c2]
theorem eqT_kDs {j k : NK} {d : D} (h : keyT d = some k) : eqT (kDN j) d = decide (j = k) := by
  unfold keyT at h
  split at h
  · exact eqKs_kD h
  · cases h
theorem kDs_all : ∀ {xs : List D} {k : NK}, keysT xs = some k → xs = k.map kDn
  | [], k, h => by cases h; rfl
  | x :: xs, k, h => by
    obtain ⟨a, b, h1, h2, rfl⟩ := keys_cons h
    rw [kDn_of h1, kDs_all h2]
    rfl
theorem kDs_of {k : NK} {d : D} (h : keyT d = some k) : d = kDN k := by
  unfold keyT at h
  split at h
  · unfold kDN
    rw [kDs_all h]
  · cases h
theorem lk_valT {k : NK} {d : D} (hk : keyT d = some k) {F : Hp} {ι : List Addr} : ∀ {kvs : List Ent} {xs : List D}, Rps T F ι xs (kvs.map (·.2.2)) → (∃ x v, lkT d (kvs.map fun p => kDN p.1) xs = some x ∧ valX kvs k = some v ∧ Rp T F ι x v) ∨ (lkT d (kvs.map fun p => kDN p.1) xs = none ∧ valX kvs k = none)
  | [], xs, r => .inr ⟨rfl, rfl⟩
  | p :: kvs, xs, r => by
    rw [List.map_cons] at r
    cases xs with
    | nil => unfold Rps at r; cases r
    | cons x xs =>
      unfold Rps at r
      obtain ⟨v, us, e, r1, r2⟩ := r
      injection e with e1 e2
      subst e1 e2
      rw [List.map_cons]
      unfold lkT valX
      rw [eqT_kDs hk]
      by_cases c : p.1 = k
      · rw [if_pos (by simpa using c), if_pos c]
        exact .inl ⟨x, p.2.2, rfl, rfl, r1⟩
      · rw [if_neg (by simpa using c), if_neg c]
        exact lk_valT hk r2
theorem rep_valT {k : NK} {d x : D} {u : V} (hk : keyT d = some k) {F : Hp} {ι : List Addr} (hu : Rp T F ι x u) : ∀ {kvs : List Ent} {xs : List D}, Rps T F ι xs (kvs.map (·.2.2)) →
    Rps T F ι (repT d x (kvs.map fun p => kDN p.1) xs) ((kvs.map fun p => if p.1 = k then (p.1, p.2.1, u) else p).map (·.2.2))
  | [], xs, r => by unfold repT; exact .nil
  | p :: kvs, xs, r => by
    rw [List.map_cons] at r
    cases xs with
    | nil => unfold Rps at r; cases r
    | cons y xs =>
      unfold Rps at r
      obtain ⟨v, us, e, r1, r2⟩ := r
      injection e with e1 e2
      subst e1 e2
      rw [List.map_cons, List.map_cons, List.map_cons]
      unfold repT
      rw [eqT_kDs hk]
      have ih := rep_valT hk hu r2
      by_cases c : p.1 = k
      · rw [if_pos (by simpa using c), if_pos c]
        exact .cons hu ih
      · rw [if_neg (by simpa using c), if_neg c]
        exact .cons r1 ih
theorem put_valT {k : NK} {b : Addr} {d x : D} {u : V} (hk : keyT d = some k) {F : Hp} {ι : List Addr} (hu : Rp T F ι x u) {kvs : List Ent} {xs : List D} (r : Rps T F ι xs (kvs.map (·.2.2))) :
    setTk d (kvs.map fun p => kDN p.1) = (putX kvs k b u).map (fun p => kDN p.1) ∧ Rps T F ι (setTv d x (kvs.map fun p => kDN p.1) xs) ((putX kvs k b u).map (·.2.2)) := by
  have q : ((kvs.map fun p => kDN p.1).any fun c => eqT c d) = kvs.any fun p => decide (p.1 = k) := by
    rw [List.any_map]
    congr 1
    funext p
    exact eqT_kDs hk
  unfold setTk setTv putX
  rw [q]
  split
  · refine ⟨?_, rep_valT hk hu r⟩
    rw [List.map_map]
    refine List.map_congr_left fun p _ => ?_
    simp only [Function.comp]
    split <;> rfl
  · refine ⟨by rw [List.map_append, kDs_of hk]; rfl, ?_⟩
    rw [List.map_append]
    exact r.app (.cons hu .nil)
/-- what the dict holds at a key -/
theorem dget_T {P : Hp} {ι : List Addr} {F : Hp} {s : Sto} {H : Hp} {x y : D} {v u : V} {ks xs : List D} {k : NK} (R : RelH T P ι F s H) (rx : Rp T F ι x v) (ry : Rp T F ι y u) (hx : dtOf s x = some (ks, xs)) (hy : keyT y = some k) :
    ∃ a o, v = .ref a ∧ XGet T.hs H a u o ∧ ((∃ d w, lkT y ks xs = some d ∧ o = some w ∧ Rp T F ι d w) ∨ (lkT y ks xs = none ∧ o = none)) := by
  obtain ⟨a, kvs, rfl, h3, hk, h4, h5⟩ := dt_of' R rx hx
  subst h4
  obtain ⟨b, rfl, hb⟩ := key_ofT ry hy
  refine ⟨a, valX kvs k, rfl, ⟨kvs, k, b, h3, hk, rfl, R.sub _ _ hb, rfl⟩, ?_⟩
  rcases lk_valT hy h5 with ⟨x', v', e1, e2, e3⟩ | ⟨e1, e2⟩
  · exact .inl ⟨x', v', e1, e2, e3⟩
  · exact .inr ⟨e1, e2⟩
/-! ### d[k], k in d, d[k] = v, d.get(k, x), {} -/
def dTix (f g : DE) : DE := fun δ s => (f δ s).bind fun x s1 => (g δ s1).bind fun y s2 => match dtOf s2 x, keyT y with
  | some (ks, xs), some _ => match lkT y ks xs with
    | some d => .ok d s2
    | none => .stuck
  | _, _ => .stuck
def dTin (neg : Bool) (g f : DE) : DE := fun δ s => (g δ s).bind fun y s1 => (f δ s1).bind fun x s2 => match dtOf s2 x, keyT y with
  | some (ks, xs), some _ => .ok (.bl (neg != (lkT y ks xs).isSome)) s2
  | _, _ => .stuck
/-- d.get(k, x) -/
def dTget (f g h : DE) : DE := fun δ s => (f δ s).bind fun x s1 => match dtOf s1 x with
  | some _ => (g δ s1).bind fun y s2 => (h δ s2).bind fun z s3 => match dtOf s3 x, keyT y with
    | some (ks, xs), some _ => .ok ((lkT y ks xs).getD z) s3
    | _, _ => .stuck
  | none => .stuck
variable {X : Cx}
theorem d_tix {o i : Expr} {pos : Pos} {f g : DE} (ho : PDe T X o f) (hi : PDe T X i g) (hu : X.A.units + 16 < cLine) (hs : NoSl i := by intro _ _; rfl) (hh : NestedKey.hash X.w = T.hs := by rfl) : PDe T X (.Subscript o i pos) (dTix f g) := fun pn xe W tk => by
  obtain ⟨t1, p1, d1⟩ := ho pn xe W tk
  obtain ⟨t2, p2, d2⟩ := hi pn xe W tk
  refine ⟨tXGet T.hs t1 t2, by rw [← hh]; exact pe_xget (X := X.tr pn xe) hu p1 p2 hs, fun σ H P ι F δ s Q R E post => ?_⟩
  show t1 σ H _
  refine den_then d1 R E post fun x v H1 ι1 F1 s1 g1 R1 E1 r1 post1 => ?_
  refine den_then d2 R1 E1 post1 fun y u H2 ι2 F2 s2 g2 R2 E2 r2 post2 => ?_
  split at post2
  · rename_i ks xs k h1 h2
    obtain ⟨a, o, rfl, dg, q⟩ := dget_T R2 (r1.mono g2) r2 h1 h2
    rcases q with ⟨d, w, e1, rfl, e3⟩ | ⟨e1, rfl⟩
    · rw [e1] at post2
      exact ⟨a, w, rfl, dg, post2.here R2 e3⟩
    · rw [e1] at post2
      exact post2.elim
  · exact post2.elim
theorem den_tin {W : WX} {neg : Bool} {t1 t2 : TE} {f g : DE} (d2 : DenG T (Rp T) W t2 g) (d1 : DenG T (Rp T) W t1 f) {σ : L2.St} {H P : Hp} {ι : List Addr} {F : Hp} {δ : Env} {s : Sto} {Q : VK} (R : RelH T P ι F s H) (E : REnv T F ι δ σ)
    (post : Post T P (Rp T) Q (fun c H' => W (.ref (T.ca c)) none σ H') F ι (dTin neg g f δ s)) : t2 σ H fun y H1 => t1 σ H1 fun x H2 => ∃ a o, x = .ref a ∧ XGet T.hs H2 a y o ∧ Q (.bl (neg != o.isSome)) H2 := by
  refine den_then d2 R E post fun y u H1 ι1 F1 s1 g1 R1 E1 r1 post1 => ?_
  refine den_then d1 R1 E1 post1 fun x v H2 ι2 F2 s2 g2 R2 E2 r2 post2 => ?_
  split at post2
  · rename_i ks xs k h1 h2
    obtain ⟨a, o, rfl, dg, q⟩ := dget_T R2 r2 (r1.mono g2) h1 h2
    rcases q with ⟨d, w, e1, rfl, e3⟩ | ⟨e1, rfl⟩
    · rw [e1] at post2
      exact ⟨a, _, rfl, dg, post2.here R2 (by unfold Rp; rfl)⟩
    · rw [e1] at post2
      exact ⟨a, _, rfl, dg, post2.here R2 (by unfold Rp; rfl)⟩
  · exact post2.elim
theorem d_tin {o i : Expr} {pos : Pos} {f g : DE} (hi : PDe T X i g) (ho : PDe T X o f) (hu : X.A.units + 16 < cLine) (hm : behindInMarks .In o = false := by rfl) (hh : NestedKey.hash X.w = T.hs := by rfl) : PDe T X (.Compare i [.In] [o] pos) (dTin false g f) := fun pn xe W tk => by
  obtain ⟨t1, p1, d1⟩ := ho pn xe W tk
  obtain ⟨t2, p2, d2⟩ := hi pn xe W tk
  refine ⟨tXIn T.hs t2 t1, by rw [← hh]; exact pe_cmp (pc_xin (X := X.tr pn xe) hu p2 p1) hm, fun σ H P ι F δ s Q R E post => ?_⟩
  have := den_tin (neg := false) d2 d1 R E post
  simp only [Bool.false_bne] at this
  exact this
theorem d_tnotin {o i : Expr} {pos : Pos} {f g : DE} (hi : PDe T X i g) (ho : PDe T X o f) (hu : X.A.units + 16 < cLine) (hm : behindInMarks .NotIn o = false := by rfl) (hh : NestedKey.hash X.w = T.hs := by rfl) : PDe T X (.Compare i [.NotIn] [o] pos) (dTin true g f) := fun pn xe W tk => by
  obtain ⟨t1, p1, d1⟩ := ho pn xe W tk
  obtain ⟨t2, p2, d2⟩ := hi pn xe W tk
  refine ⟨tXNotIn T.hs t2 t1, by rw [← hh]; exact pe_cmp (pc_xnotin (X := X.tr pn xe) hu p2 p1) hm, fun σ H P ι F δ s Q R E post => ?_⟩
  have := den_tin (neg := true) d2 d1 R E post
  simp only [Bool.true_bne] at this
  exact this
theorem t_tin {o i : Expr} {pos : Pos} {f g : DE} (hi : PDe T X i g) (ho : PDe T X o f) (hu : X.A.units + 16 < cLine) (hm : behindInMarks .In o = false := by rfl) (hh : NestedKey.hash X.w = T.hs := by rfl) : PDt T X (.Compare i [.In] [o] pos) (tst (dTin false g f)) := fun pn xe W tk => by
  obtain ⟨t1, p1, d1⟩ := ho pn xe W tk
  obtain ⟨t2, p2, d2⟩ := hi pn xe W tk
  refine ⟨_, pt_cmp (show PC (X.tr pn xe) .In i o (tXIn T.hs t2 t1) from by rw [← hh]; exact pc_xin (X := X.tr pn xe) hu p2 p1) hm, fun σ H P ι F δ s Q R E post => ?_⟩
  refine den_tst (t := tXIn T.hs t2 t1) (f := dTin false g f) (fun σ H P ι F δ s Q R E post => ?_) σ H P ι F δ s Q R E post
  have := den_tin (neg := false) d2 d1 R E post
  simp only [Bool.false_bne] at this
  exact this
theorem t_tnotin {o i : Expr} {pos : Pos} {f g : DE} (hi : PDe T X i g) (ho : PDe T X o f) (hu : X.A.units + 16 < cLine) (hm : behindInMarks .NotIn o = false := by rfl) (hh : NestedKey.hash X.w = T.hs := by rfl) : PDt T X (.Compare i [.NotIn] [o] pos) (tst (dTin true g f)) := fun pn xe W tk => by
  obtain ⟨t1, p1, d1⟩ := ho pn xe W tk
  obtain ⟨t2, p2, d2⟩ := hi pn xe W tk
  refine ⟨_, pt_cmp (show PC (X.tr pn xe) .NotIn i o (tXNotIn T.hs t2 t1) from by rw [← hh]; exact pc_xnotin (X := X.tr pn xe) hu p2 p1) hm, fun σ H P ι F δ s Q R E post => ?_⟩
  refine den_tst (t := tXNotIn T.hs t2 t1) (f := dTin true g f) (fun σ H P ι F δ s Q R E post => ?_) σ H P ι F δ s Q R E post
  have := den_tin (neg := true) d2 d1 R E post
  simp only [Bool.true_bne] at this
  exact this
theorem d_tget {o e e2 : Expr} {apos cpos : Pos} {f g h : DE} (ho : PDe T X o f) (he : PDe T X e g) (hf : PDe T X e2 h) (hu : X.A.units + 16 < cLine) (m : ∀ pn xe, M2 (X.tr pn xe) o "get" apos e e2 cpos) (hh : NestedKey.hash X.w = T.hs := by rfl) : PDe T X (.Call (.Attribute o "get" apos) [e, e2] [] cpos) (dTget f g h) := fun pn xe W tk => by
  obtain ⟨t1, p1, d1⟩ := ho pn xe W tk
  obtain ⟨t2, p2, d2⟩ := he pn xe W tk
  obtain ⟨t3, p3, d3⟩ := hf pn xe W tk
  refine ⟨tXGet2 T.hs t1 t2 t3, by rw [← hh]; exact pe_xget2 (X := X.tr pn xe) hu p1 p2 p3 (m pn xe), fun σ H P ι F δ s Q R E post => ?_⟩
  show t1 σ H _
  refine den_then d1 R E post fun x v H1 ι1 F1 s1 g1 R1 E1 r1 post1 => ?_
  cases hx : dtOf s1 x with
  | none => rw [hx] at post1; exact post1.elim
  | some q =>
    obtain ⟨ks0, xs0⟩ := q
    rw [hx] at post1
    dsimp only at post1
    obtain ⟨a, kvs, rfl, h3, hk, _, _⟩ := dt_of' R1 r1 hx
    refine ⟨a, rfl, ⟨kvs, h3, hk⟩, ?_⟩
    refine den_then d2 R1 E1 post1 fun y u H2 ι2 F2 s2 g2 R2 E2 r2 post2 => ?_
    refine den_then d3 R2 E2 post2 fun z w H3 ι3 F3 s3 g3 R3 E3 r3 post3 => ?_
    split at post3
    · rename_i ks xs k h1 h2
      obtain ⟨a', o, e, dg, q⟩ := dget_T R3 ((r1.mono g2).mono g3) (r2.mono g3) h1 h2
      cases e
      refine ⟨o, dg, ?_⟩
      rcases q with ⟨d, w', e1, rfl, e3⟩ | ⟨e1, rfl⟩
      · rw [e1] at post3
        exact post3.here R3 e3
      · rw [e1] at post3
        exact post3.here R3 r3
    · exact post3.elim
/-- d[k] = v, d a cell -/
def sTput (fv fo fi : DE) : DS := fun δ s => (fv δ s).out δ fun d s1 => (fo δ s1).out δ fun o s2 => (fi δ s2).out δ fun i s3 => match o, keyT i with
  | .loc n, some _ => match s3[n]? with
    | some (.dcT ks xs) => if ks.length < 1000 then .nx δ (s3.set n (.dcT (setTk i ks) (setTv i d ks xs))) else .stuck
    | _ => .stuck
  | _, _ => .stuck
theorem s_tput {o i e : Expr} {tpos pos : Pos} {fv fo fi : DE} (he : PDe T X e fv) (ho : PDe T X o fo) (hi : PDe T X i fi) (hu : X.A.units + 16 < cLine) (hs : swapsWith e (some (.Subscript o i tpos)) pos.line X.env = pure false := by rfl) (hh : NestedKey.hash X.w = T.hs := by rfl) :
    PDs T X (.Assign [.Subscript o i tpos] e pos) (sTput fv fo fi) := fun pn xe W tk _ => by
  obtain ⟨t1, p1, d1⟩ := he pn xe W tk
  obtain ⟨t2, p2, d2⟩ := ho pn xe W tk
  obtain ⟨t3, p3, d3⟩ := hi pn xe W tk
  refine ⟨sXPut T.hs t2 t3 t1, by rw [← hh]; exact ps_xput (X := X.tr pn xe) hu p2 p3 p1 hs, fun En σ H P ι F δ s R E post => ?_⟩
  show t1 σ H _
  refine dens_then d1 R E post fun x v H1 ι1 F1 s1 g1 R1 E1 r1 post1 => ?_
  refine dens_then d2 R1 E1 post1 fun y u H2 ι2 F2 s2 g2 R2 E2 r2 post2 => ?_
  refine dens_then d3 R2 E2 post2 fun z w H3 ι3 F3 s3 g3 R3 E3 r3 post3 => ?_
  split at post3
  · rename_i n k h2
    split at post3
    · rename_i ks xs hs3
      split at post3
      · rename_i hl
        have r2' := r2.mono g3
        unfold Rp at r2'
        obtain ⟨a, e1, rfl⟩ := r2'
        obtain ⟨h4, kvs, h5, hk, h6, h7⟩ := R3.cell _ _ _ hs3 e1
        subst h6
        rw [List.length_map] at hl
        obtain ⟨b, rfl, hb⟩ := key_ofT r3 h2
        obtain ⟨q1, q2⟩ := put_valT (b := b) h2 (r1.mono (g2.trans g3)) h7
        refine ⟨a, _, rfl, ⟨kvs, k, b, h5, hk.mono R3.sub, rfl, R3.sub _ _ hb, by rw [sizeLine_eq]; omega, rfl⟩, ?_⟩
        exact post3 σ _ ι3 F3 (Grow.refl _ _) (R3.setC hs3 rfl e1 ⟨h4, _, upd_same, putX_keys hk hb, q1, q2⟩) E3
      · exact post3.elim
    · exact post3.elim
  · exact post3.elim
/-- {}, a cell -/
def dDctT : DE := fun _ s => .ok (.loc s.length) (s ++ [.dcT [] []])
theorem d_dctT {pos : Pos} : PDe T X (.Dict [] [] pos) dDctT := fun pn xe W tk => ⟨_, pe_xnew (hs := T.hs), fun σ H P ι F δ s Q R E post p hp => post_loc post R hp ⟨R.freeF hp, [], upd_same, (fun p hp => by cases hp), rfl, .nil⟩⟩
end
end Mp
/-! # MpIt -/
namespace Mp
open PySem PySem.Spec PyProof.Rows L2
/-! ## a locked dict is walked; a dict written out; a slice forth or back -/
def pairD : List D → List D → List D
  | k :: ks, x :: xs => .tup [k, x] :: pairD ks xs
  | _, _ => []
section
variable {T : Tb} {X : Cx}
theorem pairD_at {F : Hp} {ι : List Addr} : ∀ {kvs : List (Key × V)} {xs : List D} {i : Nat} {p : Key × V}, Rps T F ι xs (kvs.map (·.2)) → kvs[i]? = some p →
    ∃ x, (pairD (kvs.map fun p => kD p.1) xs)[i]? = some (.tup [kD p.1, x]) ∧ Rp T F ι x p.2
  | [], _, _, _, _, h => by simp at h
  | q :: kvs, xs, i, p, r, h => by
    rw [List.map_cons] at r
    cases xs with
    | nil => unfold Rps at r; cases r
    | cons x xs =>
      unfold Rps at r
      obtain ⟨v, us, e, r1, r2⟩ := r
      injection e with e1 e2
      subst e1 e2
      cases i with
      | zero =>
        simp at h
        subst h
        exact ⟨x, rfl, r1⟩
      | succ i => exact pairD_at (i := i) r2 (by simpa using h)
theorem pairD_len {F : Hp} {ι : List Addr} : ∀ {kvs : List (Key × V)} {xs : List D}, Rps T F ι xs (kvs.map (·.2)) → (pairD (kvs.map fun p => kD p.1) xs).length = kvs.length
  | [], _, _ => by simp [pairD]
  | q :: kvs, xs, r => by
    rw [List.map_cons] at r
    cases xs with
    | nil => unfold Rps at r; cases r
    | cons x xs =>
      unfold Rps at r
      obtain ⟨v, us, e, r1, r2⟩ := r
      injection e with e1 e2
      subst e1 e2
      simp [pairD, pairD_len r2]
theorem rp_kD {F : Hp} {ι : List Addr} (k : Key) : Rp T F ι (kD k) (kV k) := by
  cases k with
  | inl i => unfold kD Rp; rfl
  | inr x => unfold kD Rp; rfl
theorem walks_items {F : Hp} {ι : List Addr} {d : Addr} {o : Obj} {kvs : List (Key × V)} {xs : List D} (h : F d = some (.frz o (.dK kvs))) (r : Rps T F ι xs (kvs.map (·.2))) : Walks T (Iti d o kvs) (pairD (kvs.map fun p => kD p.1) xs) F ι := by
  unfold Walks
  rw [pairD_len r]
  refine walk_items.mono (fun H hF => hF _ _ h) fun i H x H' hi hF y => ?_
  obtain ⟨t, a, b, e1, e2, e3, e4, e5⟩ := y
  obtain ⟨p, hp⟩ := get_lt hi
  dsimp only at e4 e5
  rw [hp] at e4 e5
  cases e4
  cases e5
  obtain ⟨x', q1, q2⟩ := pairD_at r hp
  exact ⟨_, q1, .inr ⟨t, _, _, e1, e2, e3, rfl, .cons (rp_kD p.1) (.cons q2 .nil)⟩⟩
theorem walks_dkeys {F : Hp} {ι : List Addr} {d : Addr} {o : Obj} {kvs : List (Key × V)} (h : F d = some (.frz o (.dK kvs))) : Walks T (Itk d o kvs) (kvs.map fun p => kD p.1) F ι := by
  unfold Walks
  rw [List.length_map]
  refine walk_keys.mono (fun H hF => hF _ _ h) fun i H x H' hi hF y => ?_
  obtain ⟨e1, k, v, e2, rfl⟩ := y
  exact ⟨kD k, by rw [List.getElem?_map, e2]; rfl, .inl ⟨e1, rp_kD k⟩⟩
theorem walks_dvals {F : Hp} {ι : List Addr} {d : Addr} {o : Obj} {kvs : List (Key × V)} {xs : List D} (h : F d = some (.frz o (.dK kvs))) (r : Rps T F ι xs (kvs.map (·.2))) : Walks T (Itd d o kvs) xs F ι := by
  unfold Walks
  rw [r.len, List.length_map]
  refine walk_values.mono (fun H hF => hF _ _ h) fun i H x H' hi hF y => ?_
  obtain ⟨e1, k, e2⟩ := y
  have hx : i < xs.length := by rw [r.len, List.length_map]; exact hi
  obtain ⟨z, hz⟩ := get_lt hx
  obtain ⟨v, h1, h2⟩ := r.get hz
  rw [List.getElem?_map, e2] at h1
  cases h1
  exact ⟨z, hz, .inl ⟨e1, h2⟩⟩
def itItems (f : DE) : DIt := fun δ s => (f δ s).bind fun x s1 => match x with
  | .dcL ks xs => .ok (pairD ks xs) s1
  | _ => .stuck
def itKeysD (f : DE) : DIt := fun δ s => (f δ s).bind fun x s1 => match x with
  | .dcL ks _ => .ok ks s1
  | _ => .stuck
def itValsD (f : DE) : DIt := fun δ s => (f δ s).bind fun x s1 => match x with
  | .dcL _ xs => .ok xs s1
  | _ => .stuck
theorem i_items {e : Expr} {apos cpos tpos : Pos} {elts : List Expr} {kk : Nat} {f : DE} (h : PDe T X e f) (hb : attributeBase e "items" X.env (eval e X.env) = eval e X.env := by rfl) (hl : (apos.endLine == cpos.line) = true := by rfl) :
    PDi T X (.Tuple elts kk tpos) (.Call (.Attribute e "items" apos) [] [] cpos) (itItems f) := fun pn xe W tk => by
  obtain ⟨t1, p1, d1⟩ := h pn xe W tk
  refine ⟨_, pi_items (X := X.tr pn xe) p1 hb hl, fun σ H P ι F δ s Q R E post => ?_⟩
  show t1 σ H _
  refine den_then d1 R E post fun x v H1 ι1 F1 s1 g1 R1 E1 r1 post1 => ?_
  split at post1
  · unfold Rp at r1
    obtain ⟨a, o, kvs, rfl, h3, h4, h5⟩ := r1
    subst h4
    exact ⟨a, o, kvs, rfl, R1.sub _ _ h3, post1.here R1 (walks_items h3 h5)⟩
  · exact post1.elim
theorem i_keysD {tg e : Expr} {f : DE} (h : PDe T X e f) : PDi T X tg e (itKeysD f) := fun pn xe W tk => by
  obtain ⟨t1, p1, d1⟩ := h pn xe W tk
  refine ⟨_, pi_keys (X := X.tr pn xe) (tg := tg) p1, fun σ H P ι F δ s Q R E post => ?_⟩
  show t1 σ H _
  refine den_then d1 R E post fun x v H1 ι1 F1 s1 g1 R1 E1 r1 post1 => ?_
  split at post1
  · unfold Rp at r1
    obtain ⟨a, o, kvs, rfl, h3, h4, h5⟩ := r1
    subst h4
    exact ⟨a, o, rfl, .inl ⟨kvs, R1.sub _ _ h3, post1.here R1 (walks_dkeys h3)⟩⟩
  · exact post1.elim
theorem i_valsD {tg e : Expr} {apos cpos : Pos} {f : DE} (h : PDe T X e f) (hb : attributeBase e "values" X.env (eval e X.env) = eval e X.env := by rfl) (hl : (apos.endLine == cpos.line) = true := by rfl) :
    PDi T X tg (.Call (.Attribute e "values" apos) [] [] cpos) (itValsD f) := fun pn xe W tk => by
  obtain ⟨t1, p1, d1⟩ := h pn xe W tk
  refine ⟨_, pi_values (X := X.tr pn xe) (tg := tg) p1 hb hl, fun σ H P ι F δ s Q R E post => ?_⟩
  show t1 σ H _
  refine den_then d1 R E post fun x v H1 ι1 F1 s1 g1 R1 E1 r1 post1 => ?_
  split at post1
  · unfold Rp at r1
    obtain ⟨a, o, kvs, rfl, h3, h4, h5⟩ := r1
    exact ⟨a, o, kvs, rfl, R1.sub _ _ h3, post1.here R1 (walks_dvals h3 h5)⟩
  · exact post1.elim
theorem pairT_at {F : Hp} {ι : List Addr} : ∀ {kvs : List Ent} {xs : List D} {i : Nat} {p : Ent}, Rps T F ι xs (kvs.map (·.2.2)) → kvs[i]? = some p →
    ∃ x, (pairD (kvs.map fun p => kDN p.1) xs)[i]? = some (.tup [kDN p.1, x]) ∧ Rp T F ι x p.2.2
  | [], _, _, _, _, h => by simp at h
  | q :: kvs, xs, i, p, r, h => by
    rw [List.map_cons] at r
    cases xs with
    | nil => unfold Rps at r; cases r
    | cons x xs =>
      unfold Rps at r
      obtain ⟨v, us, e, r1, r2⟩ := r
      injection e with e1 e2
      subst e1 e2
      cases i with
      | zero =>
        simp at h
        subst h
        exact ⟨x, rfl, r1⟩
      | succ i => exact pairT_at (i := i) r2 (by simpa using h)
theorem pairT_len {F : Hp} {ι : List Addr} : ∀ {kvs : List Ent} {xs : List D}, Rps T F ι xs (kvs.map (·.2.2)) → (pairD (kvs.map fun p => kDN p.1) xs).length = kvs.length
  | [], _, _ => by simp [pairD]
  | q :: kvs, xs, r => by
    rw [List.map_cons] at r
    cases xs with
    | nil => unfold Rps at r; cases r
    | cons x xs =>
      unfold Rps at r
      obtain ⟨v, us, e, r1, r2⟩ := r
      injection e with e1 e2
      subst e1 e2
      simp [pairD, pairT_len r2]
theorem rps_kDn {F : Hp} {ι : List Addr} : ∀ k : NK, Rps T F ι (k.map kDn) (k.map nV)
  | [] => .nil
  | none :: k => .cons (by unfold kDn Rp; rfl) (rps_kDn k)
  | some (.inl i) :: k => .cons (by unfold kDn kD Rp; rfl) (rps_kDn k)
  | some (.inr x) :: k => .cons (by unfold kDn kD Rp; rfl) (rps_kDn k)
theorem rp_kDN {F : Hp} {ι : List Addr} {kvs : List Ent} (hk : KeysAt F kvs) {p : Ent} (hp : p ∈ kvs) : Rp T F ι (kDN p.1) (.ref p.2.1) := by
  unfold kDN Rp
  exact ⟨_, _, rfl, hk p hp, rps_kDn _⟩
theorem walks_itemsT {F : Hp} {ι : List Addr} {d : Addr} {o : Obj} {kvs : List Ent} {xs : List D} (h : F d = some (.frz o (DX T.hs d kvs))) (hk : KeysAt F kvs) (r : Rps T F ι xs (kvs.map (·.2.2))) : Walks T (Itxi T.hs d o kvs) (pairD (kvs.map fun p => kDN p.1) xs) F ι := by
  unfold Walks
  rw [pairT_len r]
  refine walk_xitems.mono (fun H hF => hF _ _ h) fun i H x H' hi hF y => ?_
  obtain ⟨t, a, b, e1, e2, e3, e4, e5⟩ := y
  obtain ⟨p, hp⟩ := get_lt hi
  dsimp only at e4 e5
  rw [hp] at e4 e5
  cases e4
  cases e5
  obtain ⟨x', q1, q2⟩ := pairT_at r hp
  exact ⟨_, q1, .inr ⟨t, _, _, e1, e2, e3, rfl, .cons (rp_kDN hk (List.mem_of_getElem? hp)) (.cons q2 .nil)⟩⟩
theorem walks_dkeysT {F : Hp} {ι : List Addr} {d : Addr} {o : Obj} {kvs : List Ent} (h : F d = some (.frz o (DX T.hs d kvs))) (hk : KeysAt F kvs) : Walks T (Itxk T.hs d o kvs) (kvs.map fun p => kDN p.1) F ι := by
  unfold Walks
  rw [List.length_map]
  refine walk_xkeys.mono (fun H hF => hF _ _ h) fun i H x H' hi hF y => ?_
  obtain ⟨e1, p, e2, rfl⟩ := y
  exact ⟨kDN p.1, by rw [List.getElem?_map, e2]; rfl, .inl ⟨e1, rp_kDN hk (List.mem_of_getElem? e2)⟩⟩
theorem walks_dvalsT {F : Hp} {ι : List Addr} {d : Addr} {o : Obj} {kvs : List Ent} {xs : List D} (h : F d = some (.frz o (DX T.hs d kvs))) (r : Rps T F ι xs (kvs.map (·.2.2))) : Walks T (Itxv T.hs d o kvs) xs F ι := by
  unfold Walks
  rw [r.len, List.length_map]
  refine walk_xvals.mono (fun H hF => hF _ _ h) fun i H x H' hi hF y => ?_
  obtain ⟨e1, p, e2, rfl⟩ := y
  have hx : i < xs.length := by rw [r.len, List.length_map]; exact hi
  obtain ⟨z, hz⟩ := get_lt hx
  obtain ⟨v, h1, h2⟩ := r.get hz
  rw [List.getElem?_map, e2] at h1
  cases h1
  exact ⟨z, hz, .inl ⟨e1, h2⟩⟩
def itItemsT (f : DE) : DIt := fun δ s => (f δ s).bind fun x s1 => match x with
  | .dcT ks xs => .ok (pairD ks xs) s1
  | _ => .stuck
def itKeysT (f : DE) : DIt := fun δ s => (f δ s).bind fun x s1 => match x with
  | .dcT ks _ => .ok ks s1
  | _ => .stuck
def itValsT (f : DE) : DIt := fun δ s => (f δ s).bind fun x s1 => match x with
  | .dcT _ xs => .ok xs s1
  | _ => .stuck
theorem i_itemsT {e : Expr} {apos cpos tpos : Pos} {elts : List Expr} {kk : Nat} {f : DE} (h : PDe T X e f) (hb : attributeBase e "items" X.env (eval e X.env) = eval e X.env := by rfl) (hl : (apos.endLine == cpos.line) = true := by rfl) :
    PDi T X (.Tuple elts kk tpos) (.Call (.Attribute e "items" apos) [] [] cpos) (itItemsT f) := fun pn xe W tk => by
  obtain ⟨t1, p1, d1⟩ := h pn xe W tk
  refine ⟨_, pi_xitems (hs := T.hs) (X := X.tr pn xe) p1 hb hl, fun σ H P ι F δ s Q R E post => ?_⟩
  show t1 σ H _
  refine den_then d1 R E post fun x v H1 ι1 F1 s1 g1 R1 E1 r1 post1 => ?_
  split at post1
  · unfold Rp at r1
    obtain ⟨a, o, kvs, rfl, h3, hk, h4, h5⟩ := r1
    subst h4
    exact ⟨a, o, kvs, rfl, R1.sub _ _ h3, post1.here R1 (walks_itemsT h3 hk h5)⟩
  · exact post1.elim
theorem i_keysT {tg e : Expr} {f : DE} (h : PDe T X e f) : PDi T X tg e (itKeysT f) := fun pn xe W tk => by
  obtain ⟨t1, p1, d1⟩ := h pn xe W tk
  refine ⟨_, pi_xkeys (hs := T.hs) (X := X.tr pn xe) (tg := tg) p1, fun σ H P ι F δ s Q R E post => ?_⟩
  show t1 σ H _
  refine den_then d1 R E post fun x v H1 ι1 F1 s1 g1 R1 E1 r1 post1 => ?_
  split at post1
  · unfold Rp at r1
    obtain ⟨a, o, kvs, rfl, h3, hk, h4, h5⟩ := r1
    subst h4
    exact ⟨a, o, kvs, rfl, R1.sub _ _ h3, post1.here R1 (walks_dkeysT h3 hk)⟩
  · exact post1.elim
theorem i_valsT {tg e : Expr} {apos cpos : Pos} {f : DE} (h : PDe T X e f) (hb : attributeBase e "values" X.env (eval e X.env) = eval e X.env := by rfl) (hl : (apos.endLine == cpos.line) = true := by rfl) :
    PDi T X tg (.Call (.Attribute e "values" apos) [] [] cpos) (itValsT f) := fun pn xe W tk => by
  obtain ⟨t1, p1, d1⟩ := h pn xe W tk
  refine ⟨_, pi_xvalues (hs := T.hs) (X := X.tr pn xe) (tg := tg) p1 hb hl, fun σ H P ι F δ s Q R E post => ?_⟩
  show t1 σ H _
  refine den_then d1 R E post fun x v H1 ι1 F1 s1 g1 R1 E1 r1 post1 => ?_
  split at post1
  · unfold Rp at r1
    obtain ⟨a, o, kvs, rfl, h3, hk, h4, h5⟩ := r1
    exact ⟨a, o, kvs, rfl, R1.sub _ _ h3, post1.here R1 (walks_dvalsT h3 h5)⟩
  · exact post1.elim
/-! ### {k: v, ..}, a cell -/
abbrev DPs := Env → Sto → Res (List (D × D))
def psNil : DPs := fun _ s => .ok [] s
def psCons (f g : DE) (h : DPs) : DPs := fun δ s => (f δ s).bind fun x s1 => (g δ s1).bind fun y s2 => (h δ s2).bind fun r s3 => .ok ((x, y) :: r) s3
def putAll : List (D × D) → List D → List D → Option (List D × List D)
  | [], ks, xs => some (ks, xs)
  | (k, x) :: r, ks, xs => match keyD k with
    | some _ => putAll r (setK k ks) (setD k x ks xs)
    | none => none
def dDisp (h : DPs) : DE := fun δ s => (h δ s).bind fun ps s1 => if ps.length ≤ 15 then match putAll ps [] [] with
  | some (ks, xs) => .ok (.loc s1.length) (s1 ++ [.dct ks xs])
  | none => .stuck
  else .stuck
abbrev RpP (T : Tb) : Hp → List Addr → List (D × D) → List (V × V) → Prop := fun F ι ds vs => Rps T F ι (ds.map (·.1)) (vs.map (·.1)) ∧ Rps T F ι (ds.map (·.2)) (vs.map (·.2))
def PDp (T : Tb) (X : Cx) (pos : Pos) (keys : List (Option Expr)) (values : List Expr) (h : DPs) : Prop := ∀ pn xe W, Takes (X.tr pn xe) W → ∃ trs, PPs (X.tr pn xe) pos keys values trs ∧ DenG T (RpP T) W (fun σ H Q => tPairs trs σ H Q) h
theorem p_nil {pos : Pos} : PDp T X pos [] [] psNil := fun pn xe W tk => ⟨[], pps_nil, fun σ H P ι F δ s Q R E post => by
  show Q [] H
  exact post.here R ⟨.nil, .nil⟩⟩
theorem p_cons {pos : Pos} {k v : Expr} {ks : List (Option Expr)} {vs : List Expr} {f g : DE} {h : DPs} (hk : PDe T X k f) (hv : PDe T X v g) (hr : PDp T X pos ks vs h) : PDp T X pos (some k :: ks) (v :: vs) (psCons f g h) := fun pn xe W tk => by
  obtain ⟨t1, p1, d1⟩ := hk pn xe W tk
  obtain ⟨t2, p2, d2⟩ := hv pn xe W tk
  obtain ⟨trs, p3, d3⟩ := hr pn xe W tk
  refine ⟨(t1, t2) :: trs, pps_cons p1 p2 p3, fun σ H P ι F δ s Q R E post => ?_⟩
  show t1 σ H fun x H1 => t2 σ H1 fun y H2 => tPairs trs σ H2 fun ps H3 => Q ((x, y) :: ps) H3
  refine den_then d1 R E post fun x v H1 ι1 F1 s1 g1 R1 E1 r1 post1 => ?_
  refine den_then d2 R1 E1 post1 fun y u H2 ι2 F2 s2 g2 R2 E2 r2 post2 => ?_
  refine den_then d3 R2 E2 post2 fun r us H3 ι3 F3 s3 g3 R3 E3 r3 post3 => ?_
  exact post3.here R3 ⟨.cons (r1.mono (g2.trans g3)) r3.1, .cons (r2.mono g3) r3.2⟩
theorem put_all {F : Hp} {ι : List Addr} : ∀ {ps : List (D × D)} {vs : List (V × V)} {kvs : List (Key × V)} {xs ks' xs' : List D}, RpP T F ι ps vs → Rps T F ι xs (kvs.map (·.2)) → putAll ps (kvs.map fun p => kD p.1) xs = some (ks', xs') →
    ∃ more : List (Key × V), vs = more.map (fun kv => (kV kv.1, kv.2)) ∧ ks' = (mergeK kvs more).map (fun p => kD p.1) ∧ Rps T F ι xs' ((mergeK kvs more).map (·.2))
  | [], vs, kvs, xs, ks', xs', r, q, h => by
    cases h
    have e := r.1
    unfold Rps at e
    exact ⟨[], by simpa using e, rfl, q⟩
  | (k, x) :: ps, vs, kvs, xs, ks', xs', r, q, h => by
    obtain ⟨r1, r2⟩ := r
    rw [List.map_cons] at r1 r2
    cases vs with
    | nil => unfold Rps at r1; obtain ⟨_, _, e, _⟩ := r1; simp at e
    | cons p vs =>
      rw [List.map_cons] at r1 r2
      unfold Rps at r1 r2
      obtain ⟨v, us, e, a1, a2⟩ := r1
      injection e with e1 e2
      subst e1 e2
      obtain ⟨v, us, e, b1, b2⟩ := r2
      injection e with e1 e2
      subst e1 e2
      unfold putAll at h
      cases hk : keyD k with
      | none => rw [hk] at h; cases h
      | some j =>
        rw [hk] at h
        dsimp only at h
        obtain ⟨c1, c2⟩ := put_valV hk b1 q
        rw [c1] at h
        obtain ⟨more, d1, d2, d3⟩ := put_all (kvs := putK kvs j p.2) ⟨a2, b2⟩ c2 h
        refine ⟨(j, p.2) :: more, ?_, d2, d3⟩
        rw [List.map_cons, ← d1]
        have := key_of' a1 hk
        rw [← this]
/-- what was under protection becomes a cell -/
theorem RelH.toCell {P : Hp} {ι : List Addr} {F : Hp} {s : Sto} {H : Hp} {p : Addr} {o : HO} {c : Cell} (R : RelH T (upd P p o) ι F s H) (hp : P p = none) (hc : CellAt T (ι ++ [p]) F H p c) : RelH T P (ι ++ [p]) F (s ++ [c]) H := by
  have old : ∀ {n : Nat} {c' : Cell} {a : Addr}, s[n]? = some c' → (ι ++ [p])[n]? = some a → ι[n]? = some a := fun {n c' a} h1 h2 => by
    have := (List.getElem?_eq_some_iff.mp h1).1
    rwa [List.getElem?_append_left (by rw [R.len]; exact this)] at h2
  have two : ∀ {n : Nat} {c' : Cell}, (s ++ [c])[n]? = some c' → s[n]? = some c' ∨ (n = s.length ∧ c' = c) := fun {n c'} h => by
    by_cases hn : n < s.length
    · exact .inl (by rwa [List.getElem?_append_left hn] at h)
    · have hl := (List.getElem?_eq_some_iff.mp h).1
      simp at hl
      have e : n = s.length := by omega
      subst e
      simp at h
      exact .inr ⟨rfl, h.symm⟩
  have newI : ∀ {a : Addr}, (ι ++ [p])[s.length]? = some a → a = p := fun {a} h => by
    rw [← R.len] at h
    simp at h
    exact h.symm
  have ne : ∀ {n : Nat} {c' : Cell} {a : Addr}, s[n]? = some c' → c'.live = true → ι[n]? = some a → a ≠ p := fun {n c' a} h l hi z => by
    subst z
    have := R.npr n c' a h l hi
    rw [upd_same] at this
    cases this
  refine ⟨R.sub, fun b u h => R.pro b u (by rw [upd_ne (ne_of_none h hp)]; exact h), fun b u h => R.dis b u (by rw [upd_ne (ne_of_none h hp)]; exact h), by simp [R.len], fun n c' a h1 h2 => ?_, fun n c' a h1 l h2 => ?_, fun n m c1 c2 a h1 h2 l1 l2 h3 h4 => ?_⟩
  · rcases two h1 with h1 | ⟨rfl, rfl⟩
    · exact (R.cell n c' a h1 (old h1 h2)).grow (grow_app _ _ _) (fun _ => rfl) (fun _ => rfl)
    · rw [newI h2]; exact hc
  · rcases two h1 with h1 | ⟨rfl, rfl⟩
    · have q := R.npr n c' a h1 l (old h1 h2)
      rwa [upd_ne (ne h1 l (old h1 h2))] at q
    · rw [newI h2]; exact hp
  · rcases two h1 with k1 | ⟨e1, f1⟩
    · rcases two h2 with k2 | ⟨e2, f2⟩
      · exact R.nod n m c1 c2 a k1 k2 l1 l2 (old k1 h3) (old k2 h4)
      · exact absurd (newI (e2 ▸ h4)) (ne k1 l1 (old k1 h3))
    · rcases two h2 with k2 | ⟨e2, f2⟩
      · exact absurd (newI (e1 ▸ h3)) (ne k2 l2 (old k2 h4))
      · rw [e1, e2]
theorem d_disp {pos : Pos} {keys : List (Option Expr)} {values : List Expr} {h : DPs} (hp : PDp T X pos keys values h) (h1 : keys.all (·.isSome) = true := by rfl) (h2 : keys.length = values.length := by rfl) (h3 : keys ≠ [] := by exact fun z => nomatch z) (h4 : keys.length ≤ 15 := by decide) :
    PDe T X (.Dict keys values pos) (dDisp h) := fun pn xe W tk => by
  obtain ⟨trs, p1, d1⟩ := hp pn xe W tk
  refine ⟨_, pe_disp (X := X.tr pn xe) p1 h1 h2 h3 h4, fun σ H P ι F δ s Q R E post p hH => ?_⟩
  have hP : P p = none := R.freeP hH
  have R0 := R.newP hH (.dK [])
  have post' : Post T (upd P p (.dK [])) (RpP T) (fun ps H2 => H2 p = some (.dK []) ∧ ∃ kvs : List (Key × V), ps = kvs.map (fun kv => (kV kv.1, kv.2)) ∧ kvs.length ≤ 15 ∧ Q (.ref p) (upd H2 p (.dK (mergeK [] kvs)))) (fun c H' => W (.ref (T.ca c)) none σ H') F ι (h δ s) := by
    unfold dDisp at post
    cases e : h δ s with
    | stuck => rw [e] at post; exact post.elim
    | exc c s1 =>
      rw [e] at post
      exact fun H' ι' F' g R' => post H' ι' _ (g.trans (grow_new (R'.dis p _ upd_same) _)) (R'.thaw hP)
    | ok ps s1 =>
      rw [e] at post
      have post1 : Post T P (Rp T) Q (fun c H' => W (.ref (T.ca c)) none σ H') F ι (if ps.length ≤ 15 then match putAll ps [] [] with
        | some (ks, xs) => .ok (.loc s1.length) (s1 ++ [.dct ks xs])
        | none => .stuck
        else .stuck) := post
      split at post1
      · rename_i hl
        cases ea : putAll ps [] [] with
        | none => rw [ea] at post1; exact post1.elim
        | some q =>
          obtain ⟨ks, xs⟩ := q
          rw [ea] at post1
          intro vs H' ι' F' g R' r
          have hq : H' p = some (.dK []) := R'.pro p _ upd_same
          obtain ⟨more, q1, q2, q3⟩ := put_all (kvs := []) (xs := []) r .nil ea
          refine ⟨hq, more, q1, ?_, ?_⟩
          · have e1 := r.1.len
            rw [List.length_map, List.length_map, q1, List.length_map] at e1
            omega
          · have hF := R'.dis p _ upd_same
            have R3 := R'.setP (p := p) upd_same (.dK (mergeK [] more))
            rw [upd_upd] at R3
            have R4 := R3.toCell (c := .dct ks xs) hP ⟨hF, _, upd_same, q2, q3.mono (grow_app _ _ _)⟩
            refine post1 _ _ _ F' (g.trans (grow_app _ _ _)) R4 ?_
            unfold Rp
            exact ⟨p, by rw [← R3.len]; simp, rfl⟩
      · exact post1.elim
  exact d1 σ _ _ ι F δ s _ R0 E post'
/-! ### xs[::e], e one or one below nought -/
def dSlF (f g : DE) : DE := fun δ s => (f δ s).bind fun x s1 => (g δ s1).bind fun y s2 => match lqOf s2 x, y with
  | some xs, .int i => if i = 1 then .ok (.lst xs) s2 else if i = -1 then .ok (.lst xs.reverse) s2 else .stuck
  | _, _ => .stuck
theorem pick_one (its : List Value) : slicePick its.toArray none none (some 1) = its.toArray := by
  have e : slicePick its.toArray none none (some 1) = slicePick its.toArray none none none := rfl
  rw [e, slicePick_cut]
  simp [HT.sIx]
def slK (K : PySem.W.Frag) (x : V) (Q : VK) : Option Int → Hp → Prop := fun o H2 => ∃ (a : Addr) (vs : List V), x = .ref a ∧ SqL K H2 a vs ∧ ((o = some 1 ∧ ∀ p, H2 p = none → Q (.ref p) (upd H2 p (.lst vs))) ∨ (o = some (-1) ∧ ∀ p, H2 p = none → Q (.ref p) (upd H2 p (.lst vs.reverse))))
def tSlF (K : PySem.W.Frag) (t1 t2 : TE) : TE := fun σ H Q => t1 σ H fun x H1 => t2 σ H1 fun y H2 => ∃ i, y = .int i ∧ slK K x Q (some i) H2
theorem pe_slF {e st : Expr} {t1 t2 : TE} {p3 pos : Pos} (h1 : PE X e t1) (h2 : PE X st t2) : PE X (.Subscript e (.Slice none none (some st) p3) pos) (tSlF X.K t1 t2) := by
  constructor
  intro pins s σ H Q I h
  refine Subscript_ (thn (h1.run pins s σ H _ I h) fun v s1 w => ?_)
  obtain ⟨x, H1, I1, r1, q1⟩ := w
  have ho := po_some h2
  refine wpAny_Slice (thn (po_none.run pins s1 σ H1 (fun o K1 => o = none ∧ K1 = H1) I1 ⟨rfl, rfl⟩) fun vl s2 w => ?_)
  obtain ⟨l, K1, J1, pl, el, e2⟩ := w
  cases el
  cases e2
  refine thn (po_none.run pins s2 σ H1 (fun o K2 => o = none ∧ K2 = H1) J1 ⟨rfl, rfl⟩) fun vu s3 w => ?_
  obtain ⟨u, K2, J2, pu, eu, e3⟩ := w
  cases eu
  cases e3
  refine thn (ho.run pins s3 σ H1 (slK X.K x Q) J2 q1) fun vs s4 w => ?_
  obtain ⟨o, H4, J4, ps, a, ys, rfl, hx, way⟩ := w
  cases r1
  have J5 : Inv X pins σ H4 { s4 with heap := s4.heap.push { cls := .type "slice", data := .fields #[vl, vu, vs] } } := J4.kept (t' := s4.toks) fun b ob q => Heap.get?_push_of_some _ q
  obtain ⟨its, r, ht, hz⟩ := J5.list hx
  have hlen := r.length
  show wpAny (model X.prog X.w) X.A (subscriptTail e (.Slice none none (some st) p3) (.ref a) (.ref s4.heap.objs.size)) (EP X pins σ Q) X.xe { s4 with heap := s4.heap.push { cls := .type "slice", data := .fields #[vl, vu, vs] } }
  have h0 : o ≠ some 0 := by rcases way with ⟨rfl, _⟩ | ⟨rfl, _⟩ <;> decide
  have go : ∀ zs us, slicePick its.toArray none none o = us.toArray → Vals zs us → zs.length ≤ sizeLine → (∀ p, H4 p = none → Q (.ref p) (upd H4 p (.lst zs))) →
      wpAny (model X.prog X.w) X.A (subscriptTail e (.Slice none none (some st) p3) (.ref a) (.ref s4.heap.objs.size)) (EP X pins σ Q) X.xe { s4 with heap := s4.heap.push { cls := .type "slice", data := .fields #[vl, vu, vs] } } := fun zs us e1 rz lz k => by
    refine tail_any (ops := [.ref a, .ref s4.heap.objs.size]) ht.isList.typeIs (PySem.slot_list_getitem.lookup) ?_ (by with_unfolding_all rfl)
    refine wpAny_getItem_list_slice (lo := none) (hi := none) (st := o) ht.isList (Heap.IsSliceOf.new _ vl vu vs) pl pu ps h0 ?_ (by rw [List.size_toArray]; omega)
    rw [e1]
    refine ⟨.ref _, _, J5.laid (t' := s4.toks) (o := .lst zs) (fun b ob q => Heap.get?_push_of_some _ q) (Nat.le_refl _) ?_, rfl, k _ (J5.hok.fresh (Nat.le_refl _))⟩
    exact ⟨lz, us, 0, rz, Heap.get?_push_size _ rfl⟩
  rcases way with ⟨rfl, k⟩ | ⟨rfl, k⟩
  · exact go ys its (pick_one its) r hz k
  · exact go ys.reverse its.reverse (by rw [PySem.W.krv_pick]) r.reverse (by rw [List.length_reverse]; exact hz) k
theorem d_slF {e st : Expr} {p3 pos : Pos} {f g : DE} (h1 : PDe T X e f) (h2 : PDe T X st g) (hK : X.K = T.K := by rfl) : PDe T X (.Subscript e (.Slice none none (some st) p3) pos) (dSlF f g) := fun pn xe W tk => by
  obtain ⟨t1, p1, d1⟩ := h1 pn xe W tk
  obtain ⟨t2, p2, d2⟩ := h2 pn xe W tk
  have hK' : (X.tr pn xe).K = T.K := hK
  refine ⟨_, pe_slF (X := X.tr pn xe) p1 p2, fun σ H P ι F δ s Q R E post => ?_⟩
  show t1 σ H _
  refine den_then d1 R E post fun x v H1 ι1 F1 s1 g1 R1 E1 r1 post1 => ?_
  refine den_then d2 R1 E1 post1 fun y u H2 ι2 F2 s2 g2 R2 E2 r2 post2 => ?_
  split at post2
  · rename_i xs i hx
    unfold Rp at r2
    subst r2
    obtain ⟨a, vs, rfl, h3, h4⟩ := lq_of R2 (r1.mono g2) hx
    rw [hK']
    split at post2
    · rename_i hi
      subst hi
      refine ⟨1, rfl, a, vs, rfl, h3, .inl ⟨rfl, fun p hp => post2.new R2 hp fun g => ?_⟩⟩
      unfold Rp
      exact ⟨p, vs, rfl, upd_same, h4.mono g⟩
    · split at post2
      · rename_i hi
        subst hi
        refine ⟨-1, rfl, a, vs, rfl, h3, .inr ⟨rfl, fun p hp => post2.new R2 hp fun g => ?_⟩⟩
        unfold Rp
        exact ⟨p, _, rfl, upd_same, (Rps.rev h4).mono g⟩
      · exact post2.elim
  · exact post2.elim
end
end Mp
/-! # MpNk3 -/
namespace Mp
open PySem PySem.Spec PyProof.Rows L2
/-! ## {(..): v, ..}, a cell -/
def mergeX (kvs more : List Ent) : List Ent := more.foldl (fun acc e => putX acc e.1 e.2.1 e.2.2) kvs
theorem mergeX_len : ∀ (more kvs : List Ent), (mergeX kvs more).length ≤ kvs.length + more.length
  | [], kvs => by show kvs.length ≤ kvs.length + 0; omega
  | p :: r, kvs => by
    have h1 := mergeX_len r (putX kvs p.1 p.2.1 p.2.2)
    have h2 := putX_len (kvs := kvs) (k := p.1) (b := p.2.1) (v := p.2.2)
    show (mergeX (putX kvs p.1 p.2.1 p.2.2) r).length ≤ _
    rw [List.length_cons]; omega
theorem merge_rel : ∀ {more : List Ent} {rs : List (NestedKey × Addr × Value)} {kvs : List Ent} {xs : List (NestedKey × Addr × Value)}, Paired EntR more rs → Paired EntR kvs xs → Paired EntR (mergeX kvs more) (storedAllH xs rs)
  | _, _, _, _, .nil, q => q
  | p :: more, r :: rs, kvs, xs, .cons h t, q => by
    have e : Paired EntR (putX kvs p.1 p.2.1 p.2.2) (storedH xs r.1 r.2.1 r.2.2) := by
      rw [h.1, h.2.1]
      exact put_rel h.2.2 q
    exact merge_rel (more := more) (rs := rs) (kvs := putX kvs p.1 p.2.1 p.2.2) (xs := storedH xs r.1 r.2.1 r.2.2) t e
theorem mergeX_keys {H : Hp} : ∀ {more kvs : List Ent}, KeysAt H kvs → KeysAt H more → KeysAt H (mergeX kvs more)
  | [], _, h, _ => h
  | p :: more, kvs, h, k => mergeX_keys (more := more) (putX_keys h (k p List.mem_cons_self)) fun q hq => k q (List.mem_cons_of_mem _ hq)
def tXDisp (hs : NestedKey → Int) (trs : List (TE × TE)) : TE := fun σ H Q => ∀ p, H p = none → tPairs trs σ (upd H p (DX hs p [])) fun ps H2 => H2 p = some (DX hs p []) ∧ ∃ kvs : List Ent, ps = kvs.map (fun e => (V.ref e.2.1, e.2.2)) ∧ KeysAt H2 kvs ∧ kvs.length ≤ 15 ∧ Q (.ref p) (upd H2 p (DX hs p (mergeX [] kvs)))
theorem carriesX {P : Program} {w : World} {H : Hp} {h : Heap} (ok : HOk P w H h) : ∀ {kvs : List Ent} {ws : List (Value × Value)}, KeysAt H kvs → VV (kvs.map fun e => (V.ref e.2.1, e.2.2)) ws → ∃ rs, CarriesH (nestedKind P w) h ws rs ∧ Paired EntR kvs rs
  | [], _, _, r => by rw [List.map_nil] at r; cases r; exact ⟨[], True.intro, .nil⟩
  | p :: kvs, _, ks, r => by
    rw [List.map_cons] at r
    cases r with
    | @cons a b as bs h1 t =>
      obtain ⟨rs, c, q⟩ := carriesX ok (fun q hq => ks q (List.mem_cons_of_mem _ hq)) t
      obtain ⟨b1, b2⟩ := b
      exact ⟨(nk p.1, p.2.1, b2) :: rs, ⟨h1.1, rfl, nk_of ok (ks p List.mem_cons_self), c⟩, .cons ⟨rfl, rfl, h1.2⟩ q⟩
theorem pe_xdisp {X : Cx} {pos : Pos} {keys : List (Option Expr)} {values : List Expr} {trs : List (TE × TE)} (hu : X.A.units + 16 < cLine) (h : PPs X pos keys values trs) (hall : keys.all (·.isSome) = true) (hl : keys.length = values.length) (h0 : keys ≠ [])
    (h15 : keys.length ≤ 15) : PE X (.Dict keys values pos) (tXDisp (NestedKey.hash X.w) trs) := by
  refine ⟨fun pins s σ H Q I q => ?_⟩
  have hn := I.hok.fresh (Nat.le_refl s.heap.objs.size)
  have I1 := I.laid (a := s.heap.objs.size) (o := DX (NestedKey.hash X.w) s.heap.objs.size []) (h' := s.heap.push { cls := .type "dict", data := .dict #[] }) (t' := s.toks) (fun _ _ q => Heap.get?_push_of_some _ q) (Nat.le_refl _)
    (dx_new ⟨Nat.zero_le _, beq_eq_false_iff_ne.mpr (Ne.symm (Nat.ne_of_lt I.big)), [], .nil, _, #[], 0, Heap.get?_push_size _ rfl, ⟨rfl, rfl, rfl⟩, rfl, rfl, List.nodup_nil⟩)
  have hlen := pairTrees_length keys values X.env pos hall hl
  have h0' : pairTrees keys values X.env pos ≠ [] := fun he => h0 (List.length_eq_zero_iff.mp (by rw [he] at hlen; exact hlen.symm))
  rw [arm_eval_Dict, zip_pairTrees keys values X.env pos hall hl, dictDisplay_pairs _ h0' (by omega)]
  refine wpAny_bind (wpAny_standAt (wpAny_bind (wpAny_subDictH (knd := nestedKind X.prog X.w) (Q := fun d s' => wpAny (model X.prog X.w) X.A (pure (Value.ref d)) (EP X pins σ Q) X.xe s') (show X.A.units + 8 < cLine by omega) (by omega) ?_)))
  refine thn (h.run pins _ σ _ _ I1 (q _ hn)) fun ws s2 ⟨ps, H2, I2, rel, e, kvs, ep, ks, lk, q2⟩ => ?_
  subst ep
  obtain ⟨rs, c, rk⟩ := carriesX (P := X.prog) (w := X.w) I2.hok ks rel
  obtain ⟨z, hd, xs0, r0, dd⟩ := dx_of I2.hok (.inl e) (fun p hp => by cases hp)
  cases r0
  refine ⟨rs, c, dd, fun h' tk dd' hs => wpAny_pure ⟨.ref s.heap.objs.size, _, ?_, rfl, q2⟩⟩
  have hz : (mergeX [] kvs).length ≤ sizeLine := by
    have h1 := mergeX_len kvs []
    rw [List.length_nil] at h1
    rw [sizeLine_eq]; omega
  obtain ⟨o, es, epp, hq, h2, h3, h4, _, h5⟩ := dd'
  exact d_write I2 (by rw [e]; exact True.intro) hs ⟨o, hq⟩ (dx_new ⟨hz, hd, _, merge_rel rk .nil, o, es, epp, hq, h2, h3, h4, h5⟩)
def putAllT : List (D × D) → List D → List D → Option (List D × List D)
  | [], ks, xs => some (ks, xs)
  | (k, x) :: r, ks, xs => match keyT k with
    | some _ => putAllT r (setTk k ks) (setTv k x ks xs)
    | none => none
def dDispT (h : DPs) : DE := fun δ s => (h δ s).bind fun ps s1 => if ps.length ≤ 15 then match putAllT ps [] [] with
  | some (ks, xs) => .ok (.loc s1.length) (s1 ++ [.dcT ks xs])
  | none => .stuck
  else .stuck
section
variable {T : Tb} {X : Cx}
theorem put_allT {F : Hp} {ι : List Addr} : ∀ {ps : List (D × D)} {vs : List (V × V)} {kvs : List Ent} {xs ks' xs' : List D}, RpP T F ι ps vs → Rps T F ι xs (kvs.map (·.2.2)) → putAllT ps (kvs.map fun p => kDN p.1) xs = some (ks', xs') →
    ∃ more : List Ent, vs = more.map (fun e => (V.ref e.2.1, e.2.2)) ∧ KeysAt F more ∧ ks' = (mergeX kvs more).map (fun p => kDN p.1) ∧ Rps T F ι xs' ((mergeX kvs more).map (·.2.2))
  | [], vs, kvs, xs, ks', xs', r, q, h => by
    cases h
    have e := r.1
    unfold Rps at e
    exact ⟨[], by simpa using e, (fun p hp => by cases hp), rfl, q⟩
  | (k, x) :: ps, vs, kvs, xs, ks', xs', r, q, h => by
    obtain ⟨r1, r2⟩ := r
    rw [List.map_cons] at r1 r2
    cases vs with
    | nil => unfold Rps at r1; obtain ⟨_, _, e, _⟩ := r1; simp at e
    | cons p vs =>
      rw [List.map_cons] at r1 r2
      unfold Rps at r1 r2
      obtain ⟨v, us, e, a1, a2⟩ := r1
      injection e with e1 e2
      subst e1 e2
      obtain ⟨v, us, e, b1, b2⟩ := r2
      injection e with e1 e2
      subst e1 e2
      unfold putAllT at h
      cases hk : keyT k with
      | none => rw [hk] at h; cases h
      | some j =>
        rw [hk] at h
        dsimp only at h
        obtain ⟨b, eb, hb⟩ := key_ofT a1 hk
        obtain ⟨c1, c2⟩ := put_valT (b := b) hk b1 q
        rw [c1] at h
        obtain ⟨more, d1, dk, d2, d3⟩ := put_allT (kvs := putX kvs j b p.2) ⟨a2, b2⟩ c2 h
        refine ⟨(j, b, p.2) :: more, ?_, fun e he => ?_, d2, d3⟩
        · rw [List.map_cons, ← d1]
          dsimp only
          rw [← eb]
        · rcases List.mem_cons.mp he with rfl | he
          · exact hb
          · exact dk e he
theorem d_dispT {pos : Pos} {keys : List (Option Expr)} {values : List Expr} {h : DPs} (hp : PDp T X pos keys values h) (hu : X.A.units + 16 < cLine) (h1 : keys.all (·.isSome) = true := by rfl) (h2 : keys.length = values.length := by rfl) (h3 : keys ≠ [] := by exact fun z => nomatch z) (h4 : keys.length ≤ 15 := by decide) (hh : NestedKey.hash X.w = T.hs := by rfl) :
    PDe T X (.Dict keys values pos) (dDispT h) := fun pn xe W tk => by
  obtain ⟨trs, p1, d1⟩ := hp pn xe W tk
  refine ⟨tXDisp T.hs trs, by rw [← hh]; exact pe_xdisp (X := X.tr pn xe) hu p1 h1 h2 h3 h4, fun σ H P ι F δ s Q R E post p hH => ?_⟩
  have hP : P p = none := R.freeP hH
  have R0 := R.newP hH (DX T.hs p [])
  have post' : Post T (upd P p (DX T.hs p [])) (RpP T) (fun ps H2 => H2 p = some (DX T.hs p []) ∧ ∃ kvs : List Ent, ps = kvs.map (fun e => (V.ref e.2.1, e.2.2)) ∧ KeysAt H2 kvs ∧ kvs.length ≤ 15 ∧ Q (.ref p) (upd H2 p (DX T.hs p (mergeX [] kvs)))) (fun c H' => W (.ref (T.ca c)) none σ H') F ι (h δ s) := by
    unfold dDispT at post
    cases e : h δ s with
    | stuck => rw [e] at post; exact post.elim
    | exc c s1 =>
      rw [e] at post
      exact fun H' ι' F' g R' => post H' ι' _ (g.trans (grow_new (R'.dis p _ upd_same) _)) (R'.thaw hP)
    | ok ps s1 =>
      rw [e] at post
      have post1 : Post T P (Rp T) Q (fun c H' => W (.ref (T.ca c)) none σ H') F ι (if ps.length ≤ 15 then match putAllT ps [] [] with
        | some (ks, xs) => .ok (.loc s1.length) (s1 ++ [.dcT ks xs])
        | none => .stuck
        else .stuck) := post
      split at post1
      · rename_i hl
        cases ea : putAllT ps [] [] with
        | none => rw [ea] at post1; exact post1.elim
        | some q =>
          obtain ⟨ks, xs⟩ := q
          rw [ea] at post1
          intro vs H' ι' F' g R' r
          have hq : H' p = some (DX T.hs p []) := R'.pro p _ upd_same
          obtain ⟨more, q1, qk, q2, q3⟩ := put_allT (kvs := []) (xs := []) r .nil ea
          refine ⟨hq, more, q1, qk.mono R'.sub, ?_, ?_⟩
          · have e1 := r.1.len
            rw [List.length_map, List.length_map, q1, List.length_map] at e1
            omega
          · have hF := R'.dis p _ upd_same
            have R3 := R'.setP (p := p) upd_same (DX T.hs p (mergeX [] more))
            rw [upd_upd] at R3
            have R4 := R3.toCell (c := .dcT ks xs) hP ⟨hF, _, upd_same, mergeX_keys (fun p hp => by cases hp) qk, q2, q3.mono (grow_app _ _ _)⟩
            refine post1 _ _ _ F' (g.trans (grow_app _ _ _)) R4 ?_
            unfold Rp
            exact ⟨p, by rw [← R3.len]; simp, rfl⟩
      · exact post1.elim
  exact d1 σ _ _ ι F δ s _ R0 E post'
end
end Mp
/-! # MpMo -/
namespace Mp
open PySem PySem.Spec PyProof.Rows L2
section
variable {T : Tb} {X : Cx}
/-! ## f(), nothing raised; a, b = x, y; a, b, .. = a list or a tuple -/
def dCall0 (φ : List D → Sto → Res D) : DE := fun _ s => match φ [] s with
  | .ok d s' => .ok d s'
  | _ => .stuck
theorem d_call0 {x : Str} {p pos : Pos} {k j : Nat} {φ : List D → Sto → Res D} (c : Cl T X.prog X.w X.mg X.base x k 0 φ) (hr : Room j X.A) (hk : k ≤ j := by decide) (hg : Gl X x := by rfl) (hK : X.K = T.K := by rfl)
    (hdb : (x == ("__debug__" : Str)) = false := by decide) : PDe T X (.Call (.Name x p) [] [] pos) (dCall0 φ) := fun pn xe W tk => by
  obtain ⟨f, fd, ps, h1, h2, h3, h4⟩ := c.ex
  rw [← hK] at h2 h3 h4
  have hx : Passes (L2.CX X.prog X.w) (X.tr pn xe) (fun _ _ _ => False) := fun pins σ H s e s' I c => (passAt tk σ) pins H s e s' I (by
    obtain ⟨a, B, H', cls, d, q1, q2, q3, q4, q5⟩ := c
    exact ⟨a, B, H', cls, d, q1, q2, q3, q4, by first | exact q5.elim | exact q5.2.elim | exact q5.2.2.elim | (obtain ⟨_, _, _, q⟩ := q5; exact q.elim)⟩)
  refine ⟨_, pe_call0 (X := X.tr pn xe) h4 (hr.mono hk) hg h1 h2 h3 .nil hx hdb, fun σ H P ι F δ s Q R E post => ?_⟩
  show spD T 0 φ ([] ++ []) H Q (fun _ _ _ => False)
  refine ⟨rfl, P, ι, F, s, [], R, .nil, ?_⟩
  unfold dCall0 at post
  cases e : φ [] s with
  | ok d s' => rw [e] at post; exact post
  | exc _ _ => rw [e] at post; exact post.elim
  | stuck => rw [e] at post; exact post.elim
def sPar (i j : Nat) (fa : DA) : DS := fun δ s => (fa δ s).out δ fun ds s1 => match ds with
  | [x, y] => .nx ((δ.set i (some x)).set j (some y)) s1
  | _ => .stuck
theorem s_par {x y : Str} {a b : Expr} {px py pt : Pos} {kt k2 : _} {pt2 pos : Pos} {fa : DA} (i j : Nat) (hN : X.N.Nodup) (ha : PDa T X [a, b] fa) (hi : X.N[i]? = some x := by rfl) (hj : X.N[j]? = some y := by rfl) (hij : i ≠ j := by decide)
    (hx : X.env.scope.names.lookup x = some .local := by rfl) (hy : X.env.scope.names.lookup y = some .local := by rfl)
    (hw : swappedStores [.Tuple [.Name x px, .Name y py] kt pt] (.Tuple [a, b] k2 pt2) X.env = pure (some [x, y]) := by rfl)
    (hs : swapsWithSole [.Tuple [.Name x px, .Name y py] kt pt] (.Tuple [a, b] k2 pt2) pos.line X.env = pure false := by rfl) (hc : X.calm = true := by rfl) :
    PDs T X (.Assign [.Tuple [.Name x px, .Name y py] kt pt] (.Tuple [a, b] k2 pt2) pos) (sPar i j fa) := fun pn xe W tk _ => by
  obtain ⟨t1, p1, d1⟩ := ha pn xe W tk
  refine ⟨_, ps_par (X := X.tr pn xe) hc hN hi hj hij hx hy p1 hw hs, fun En σ H P ι F δ s R E post => ?_⟩
  show t1 σ H _
  refine dens_then d1 R E post fun ds vs H1 ι1 F1 s1 g1 R1 E1 r1 post1 => ?_
  split at post1
  · obtain ⟨v, u, rfl, h1, h2⟩ := rps2 r1.1
    exact ⟨v, u, rfl, post1 _ H1 ι1 F1 (Grow.refl _ _) R1 ((E1.set h1 i).set h2 j)⟩
  · exact post1.elim
/-- out of a list or of a tuple -/
def tgLT (ts : List DTg) : DTg := fun d δ => match d with
  | .lst xs => tgs ts xs δ
  | .tup xs => tgs ts xs δ
  | _ => none
theorem PG.or2 {tg : Expr} {g g' : TG} (h : PG X tg g) (h' : PG X tg g') : PG X tg (fun v σ H Q => g v σ H Q ∨ g' v σ H Q) := by
  constructor
  intros
  rename_i hh
  rcases hh with q | q
  · first | exact h.run _ _ _ _ _ _ _ ‹_› ‹_› q | exact h.run _ _ _ _ _ _ ‹_› ‹_› q | exact h.run _ _ _ _ _ _ _ _ ‹_› ‹_› q
  · first | exact h'.run _ _ _ _ _ _ _ ‹_› ‹_› q | exact h'.run _ _ _ _ _ _ ‹_› ‹_› q | exact h'.run _ _ _ _ _ _ _ _ ‹_› ‹_› q
theorem g_lt {es : List Expr} {k : Nat} {pos : Pos} {ws : List Nat} {fs : List DTg} (h : PDgs T X es ws fs) (hn : (assignEach es X.env).length = fs.length := by rfl) (hst : (assignEach es X.env).findIdx? (·.1) = none := by rfl) (hc : X.calm = true := by rfl) (hK : X.K = T.K := by rfl) : PDg T X (.Tuple es k pos) ws (tgLT fs) := fun pn xe => by
  obtain ⟨g1, p1, d1⟩ := h pn xe
  refine ⟨_, Mp.PG.or2 (pg_lst (X := X.tr pn xe) hc p1 hn hst) (pg_tup (X := X.tr pn xe) hc p1 hn hst), fun σ H P ι F δ δ' s d v Q R E r e k => ?_⟩
  have hK' : (X.tr pn xe).K = T.K := hK
  cases d with
  | lst xs =>
    obtain ⟨a, vs, rfl, h1, h2⟩ := lq_of R r (show lqOf s (.lst xs) = some xs from rfl)
    have e' : tgs fs xs δ = some δ' := e
    refine .inl ⟨a, vs, rfl, by rw [hK']; exact h1, ?_, d1 _ _ _ _ _ _ _ _ _ _ _ R E h2 e' k⟩
    rw [← h2.len]
    exact tgs_len e'
  | tup xs =>
    obtain ⟨a, vs, rfl, h1, _, h2⟩ := tp_of R r
    have e' : tgs fs xs δ = some δ' := e
    refine .inr ⟨a, vs, rfl, SqT.of h1, ?_, d1 _ _ _ _ _ _ _ _ _ _ _ R E h2 e' k⟩
    rw [← h2.len]
    exact tgs_len e'
  | _ => cases e
end
end Mp
/-! # MpRun -/
namespace Mp
open PySem PySem.W PySem.Calls PyProof.Rows HandSHeadRun
/-! ## the head's run, in parts (each a theorem of its own: what the kernel keeps goes between them) -/
abbrev KrT (n : Nat) (s : SharedT) : Frag := He.frT (getT s) (He.asD (getT s) n)
abbrev KrG (n : Nat) (s : SharedT) : Frag := He.frG (getT s) (He.asD (getT s) n)
theorem runL_of {r : OpenRow} {q : Program} {n : Nat} {fa : List He.Fa} {fn : List He.DefD} {tf : List He.Defn} {ex : Frag → Bool} {M : Nat} {loose : List PySem.Str} {w : World} {ob : SharedT → He.AlX} (hob : ob = fun s => obsLG n fa fn tf ex (getT s))
    (h0 : ∀ os : OsState, (endF (stepQ (denQ tabQ) r.prog w) M r.prog w os).map (fun s => (looksF r.prog (boot_heap w.params) s.abs, seenQ q loose (importedModules r.prog.main.body) (fun s => xlAt q [] s && recOk r.toRowW.records s) s.abs)) = some (true, openGood q loose))
    (h1 : ∀ os : OsState, (endF (stepQ (denQ tabQ) r.prog w) M r.prog w os).map (fun s => (fa.all fun f => f.ok (KrT n s)) && fn.all fun d => d.ok (KrT n s)) = some true)
    (h2 : ∀ os : OsState, (endF (stepQ (denQ tabQ) r.prog w) M r.prog w os).map (fun s => (fn.map fun d => He.fnW (KrT n s) d.at_, He.tabsB (getT s) tf (KrT n s))) = some ((He.valD fn).2, true))
    (h3 : ∀ os : OsState, (endF (stepQ (denQ tabQ) r.prog w) M r.prog w os).map (fun s => exL tf ex (KrT n s)) = some true) : RunEq r q (hookL n fa fn tf ex) ob M loose w := by
  subst hob
  intro os
  have a0 := h0 os
  have a1 := h1 os
  have a2 := h2 os
  have a3 := h3 os
  cases e : endF (stepQ (denQ tabQ) r.prog w) M r.prog w os with
  | none => rw [e] at a0; cases a0
  | some s =>
    rw [e] at a0 a1 a2 a3
    have b0 := Option.some.inj a0
    have b1 : ((fa.all fun f => f.ok (KrT n s)) && fn.all fun d => d.ok (KrT n s)) = true := Option.some.inj a1
    have b2 := Option.some.inj a2
    have b3 : exL tf ex (KrT n s) = true := Option.some.inj a3
    obtain ⟨c0, c1⟩ := Prod.mk.inj b0
    obtain ⟨c2, c3⟩ := Prod.mk.inj b2
    have key : (((((fa.all fun f => f.ok (KrT n s)) && fn.all fun d => d.ok (KrT n s)), fn.map fun d => He.fnW (KrT n s) d.at_), (([] : List He.Tab).map fun t => He.dicW (KrT n s) (t.1 (KrT n s)))), (exL tf ex (KrT n s) && He.tabsB (getT s) tf (KrT n s))) = (((true, (He.valD fn).2), ([] : List He.Tab).map fun t => some (He.keysIn w.params t.2)), true) := by
      rw [b1, c2, b3, c3]
      rfl
    exact congrArg some (congr (congrArg Prod.mk c0) (congr (congrArg Prod.mk c1) key))
theorem runE_of {r : OpenRow} {q : Program} {n : Nat} {fa : List He.Fa} {fn : List He.DefD} {ex : Frag → Bool} {M : Nat} {loose : List PySem.Str} {w : World} {ob : SharedT → AlE} (hob : ob = fun s => obsEG n fa fn ex (getT s))
    (h0 : ∀ os : OsState, (endF (stepQ (denQ tabQ) r.prog w) M r.prog w os).map (fun s => (looksF r.prog (boot_heap w.params) s.abs, seenQ q loose (importedModules r.prog.main.body) (fun s => xlAt q [] s && recOk r.toRowW.records s) s.abs)) = some (true, openGood q loose))
    (h1 : ∀ os : OsState, (endF (stepQ (denQ tabQ) r.prog w) M r.prog w os).map (fun s => (fa.all fun f => f.ok (KrG n s)) && fn.all fun d => d.ok (KrG n s)) = some true)
    (h2 : ∀ os : OsState, (endF (stepQ (denQ tabQ) r.prog w) M r.prog w os).map (fun s => fn.map fun d => He.fnW (KrG n s) d.at_) = some (He.valD fn).2)
    (h3 : ∀ os : OsState, (endF (stepQ (denQ tabQ) r.prog w) M r.prog w os).map (fun s => ex (KrG n s)) = some true) : RunEq r q (hookE n fa fn ex) ob M loose w := by
  subst hob
  intro os
  have a0 := h0 os
  have a1 := h1 os
  have a2 := h2 os
  have a3 := h3 os
  cases e : endF (stepQ (denQ tabQ) r.prog w) M r.prog w os with
  | none => rw [e] at a0; cases a0
  | some s =>
    rw [e] at a0 a1 a2 a3
    have b0 := Option.some.inj a0
    have b1 : ((fa.all fun f => f.ok (KrG n s)) && fn.all fun d => d.ok (KrG n s)) = true := Option.some.inj a1
    have b2 : (fn.map fun d => He.fnW (KrG n s) d.at_) = (He.valD fn).2 := Option.some.inj a2
    have b3 : ex (KrG n s) = true := Option.some.inj a3
    obtain ⟨c0, c1⟩ := Prod.mk.inj b0
    have key : ((((fa.all fun f => f.ok (KrG n s)) && fn.all fun d => d.ok (KrG n s)), fn.map fun d => He.fnW (KrG n s) d.at_), ex (KrG n s)) = ((true, (He.valD fn).2), true) := by
      rw [b1, b2, b3]
    exact congrArg some (congr (congrArg Prod.mk c0) (congr (congrArg Prod.mk c1) key))
end Mp
/-! # MpRunB -/
namespace Mp
open PySem PySem.W PySem.Calls PyProof.Rows HandSHeadRun
/-! ## the part of the heap that is reached, by a mask of what was seen -/
def addM : List Addr → Nat → List Addr → Nat × List Addr
  | [], m, acc => (m, acc)
  | a :: r, m, acc => if Nat.testBit m a = true then addM r m acc else addM r (m ||| (1 <<< a)) (a :: acc)
def lvlM (g : Addr → Option Obj) : List Addr → Nat → List Addr → Nat × List Addr
  | [], m, acc => (m, acc)
  | a :: r, m, acc => match addM (match g a with
    | some o => He.refsD o
    | none => []) m acc with
    | (m', acc') => lvlM g r m' acc'
def asN (g : Addr → Option Obj) : Nat → List Addr → Nat → List Addr → List Addr
  | 0, _, _, all => all
  | n + 1, f, m, all => match lvlM g f m [] with
    | (m', f') => asN g n f' m' (all ++ f')
def asM (g : Addr → Option Obj) (n : Nat) : List Addr := asN g n [mainGlobals] (1 <<< mainGlobals) [mainGlobals]
def obsMG (n : Nat) (fa : List He.Fa) (fn : List He.DefD) (tf : List He.Defn) (ex : Frag → Bool) (g : Addr → Option Obj) : He.AlX := (He.obsT fa fn [] (He.frT g (asM g n)), exL tf ex (He.frT g (asM g n)) && He.tabsB g tf (He.frT g (asM g n)))
theorem saysM_of {n : Nat} {fa : List He.Fa} {fn : List He.DefD} {tf : List He.Defn} {ex : Frag → Bool} {w : World} {h : Heap} (e : obsMG n fa fn tf ex h.get? = He.valX fn [] w) : He.SaysX fa fn [] tf (exL tf ex) w h (He.frT h.get? (asM h.get? n)) := by
  have e1 : He.obsT fa fn [] (He.frT h.get? (asM h.get? n)) = He.valT fn [] w := congrArg (fun z : He.AlX => z.1) e
  have e2 : (exL tf ex (He.frT h.get? (asM h.get? n)) && He.tabsB h.get? tf (He.frT h.get? (asM h.get? n))) = true := congrArg (fun z : He.AlX => z.2) e
  obtain ⟨h1, h2⟩ := He.ba e2
  have key : ∀ p ∈ tf, PySem.W.codeHdIn (He.frT h.get? (asM h.get? n)) (He.cT (He.frT h.get? (asM h.get? n)) p).1 (He.cT (He.frT h.get? (asM h.get? n)) p).2 = true ∧ ∃ o, h.get? (He.cT (He.frT h.get? (asM h.get? n)) p).2 = some o ∧ He.emptyTab o = true := fun p hp => by
    obtain ⟨h3, h4⟩ := He.ba (List.all_eq_true.mp h2 p hp)
    refine ⟨h3, ?_⟩
    cases q : h.get? (He.cT (He.frT h.get? (asM h.get? n)) p).2 with
    | none =>
      rw [q] at h4
      cases h4
    | some o =>
      rw [q] at h4
      exact ⟨o, rfl, h4⟩
  exact ⟨e1, h1, fun p hp => (key p hp).1, fun p hp => by
    obtain ⟨_, o, ho, ht⟩ := key p hp
    exact He.frT_none ho ht, fun p hp => by
    obtain ⟨_, o, ho, ht⟩ := key p hp
    rw [ho, He.emptyTab_eq ht]⟩
end Mp
namespace Mp
open PySem PySem.W PySem.Calls PyProof.Rows HandSHeadRun
def hookM (n : Nat) (fa : List He.Fa) (fn : List He.DefD) (tf : List He.Defn) (ex : PySem.W.Frag → Bool) : PySem.W.Hook where
  α := AlL
  obs := fun s => obsMG n fa fn tf ex s.heap.get?
  val := fun w => He.valX fn [] w
  says := fun _ h => ∃ K : PySem.W.Frag, K.In h ∧ SaysL fa fn tf ex h K
  of := fun w h e => by
    have c := saysM_of (w := w) e
    obtain ⟨h1, h2⟩ := He.ba c.more
    exact ⟨_, He.frT_in, c.t.d, h1, of_decide_eq_true h2, c.hd, c.out, c.empty⟩
  keeps := fun _ _ _ ⟨K, hK, c⟩ k => ⟨K, PySem.W.Frag.In.keeps hK k, c.d, c.more, c.nd, c.hd, c.out, fun p hp => k _ _ (c.empty p hp)⟩
theorem obsMG_eq {n : Nat} {fa : List He.Fa} {fn : List He.DefD} {tf : List He.Defn} {ex : PySem.W.Frag → Bool} {g : Addr → Option Obj} {s : Shared} (h : ∀ a, g a = s.heap.get? a) : obsMG n fa fn tf ex g = (hookM n fa fn tf ex).obs s := by
  have e : g = s.heap.get? := funext h
  rw [e] <;> rfl
abbrev KrM (n : Nat) (s : SharedT) : Frag := He.frT (getT s) (asM (getT s) n)
theorem runM_of {r : OpenRow} {q : Program} {n : Nat} {fa : List He.Fa} {fn : List He.DefD} {tf : List He.Defn} {ex : Frag → Bool} {M : Nat} {loose : List PySem.Str} {w : World} {ob : SharedT → He.AlX} (hob : ob = fun s => obsMG n fa fn tf ex (getT s))
    (h0 : ∀ os : OsState, (endF (stepQ (denQ tabQ) r.prog w) M r.prog w os).map (fun s => (looksF r.prog (boot_heap w.params) s.abs, seenQ q loose (importedModules r.prog.main.body) (fun s => xlAt q [] s && recOk r.toRowW.records s) s.abs)) = some (true, openGood q loose))
    (h1 : ∀ os : OsState, (endF (stepQ (denQ tabQ) r.prog w) M r.prog w os).map (fun s => (fa.all fun f => f.ok (KrM n s)) && fn.all fun d => d.ok (KrM n s)) = some true)
    (h2 : ∀ os : OsState, (endF (stepQ (denQ tabQ) r.prog w) M r.prog w os).map (fun s => (fn.map fun d => He.fnW (KrM n s) d.at_, He.tabsB (getT s) tf (KrM n s))) = some ((He.valD fn).2, true))
    (h3 : ∀ os : OsState, (endF (stepQ (denQ tabQ) r.prog w) M r.prog w os).map (fun s => exL tf ex (KrM n s)) = some true) : RunEq r q (hookM n fa fn tf ex) ob M loose w := by
  subst hob
  intro os
  have a0 := h0 os
  have a1 := h1 os
  have a2 := h2 os
  have a3 := h3 os
  cases e : endF (stepQ (denQ tabQ) r.prog w) M r.prog w os with
  | none => rw [e] at a0; cases a0
  | some s =>
    rw [e] at a0 a1 a2 a3
    have b0 := Option.some.inj a0
    have b1 : ((fa.all fun f => f.ok (KrM n s)) && fn.all fun d => d.ok (KrM n s)) = true := Option.some.inj a1
    have b2 := Option.some.inj a2
    have b3 : exL tf ex (KrM n s) = true := Option.some.inj a3
    obtain ⟨c0, c1⟩ := Prod.mk.inj b0
    obtain ⟨c2, c3⟩ := Prod.mk.inj b2
    have key : (((((fa.all fun f => f.ok (KrM n s)) && fn.all fun d => d.ok (KrM n s)), fn.map fun d => He.fnW (KrM n s) d.at_), (([] : List He.Tab).map fun t => He.dicW (KrM n s) (t.1 (KrM n s)))), (exL tf ex (KrM n s) && He.tabsB (getT s) tf (KrM n s))) = (((true, (He.valD fn).2), ([] : List He.Tab).map fun t => some (He.keysIn w.params t.2)), true) := by
      rw [b1, c2, b3, c3]
      rfl
    exact congrArg some (congr (congrArg Prod.mk c0) (congr (congrArg Prod.mk c1) key))
end Mp
/-! # MpKey -/
namespace Mp
open PySem PySem.Spec PyProof.Rows L2 LamX
/-! ## a lambda of one parameter or more, called -/
theorem lam1_run {CX : CXT} {P : Program} {w : World} {K : PySem.W.Frag} {mg : Str → Option Value} {base : Heap} {k : Nat} {f c' : Addr} {qual : Str} {params : Arguments} {body : Expr} {scope : Scope} {pm ctv : Value} {N ps : List Str}
    (S : FnScope N ps scope) {A : Around} {outer : List PySem.Env} {s : Shared} {H : Hp} {us : List Value} {vs : List V} {Q : VK} {E : XK}
    (hf : s.heap.get? f = some (PySem.W.kla_obj "<lambda>" qual params body scope [] pm c' ctv)) (hc : H c' = some (CodeO c' qual)) (hr : Room (k + 1) A) (e0 : Env0 P w K mg base A outer s H)
    (hb : bindArgs (PySem.W.kla_fn "<lambda>" qual params body scope [] pm (.ref c') ctv) ⟨us, []⟩ = pure (ps.zip us)) (r : Vals vs us) (hl : vs.length = ps.length)
    (hbody : Room k (A.deeper (envOfC qual scope s.heap.objs.size f (.ref c'))) → ∃ t, PE (cxOf CX P w K mg base N qual scope f (.ref c') A outer s H E) body t ∧ t (L2.start N vs) H Q) :
    codeAny (model P w) A (.call (.ref f) ⟨us, []⟩) (CR CX outer P w H s Q E) s := by
  have lim : s.heap.NoLimit := e0.mod.nolimit.keeps fun b o e => (e0.bs b o e).1
  have hkind : ∀ y ∈ ps.zip us, scope.names.lookup y.1 = some .local ∨ (scope.names.lookup y.1 = some .cell ∧ ((cellsFrom (s.heap.objs.size + 1) scope.names []).lookup y.1).isSome = true) := fun ⟨n, v⟩ hy => by
    rcases S.par n (List.of_mem_zip hy).1 with q | q
    · exact .inl q
    · exact .inr ⟨q, PySem.W.cellsFrom_some _ _ _ (.inl q)⟩
  obtain ⟨⟨oc, vs', t, hoc, hdc, hvc⟩, _, _⟩ := e0.hok c' _ hc
  refine PySem.W.kla_callFunE hr.depth hf rfl S.co S.gen rfl ⟨c', oc, vs', t, rfl, hoc, hdc, hvc⟩ ?_
  rw [hb]
  refine wpAny_pure (wpAny_newFunctionEnv_cells S.kind hkind fun env he s1 x => ?_)
  subst he
  refine ⟨lim.keeps x.toInCall.keep, ?_⟩
  obtain ⟨t, ht, hq⟩ := hbody (hr.deeper _)
  have I : Inv (cxOf CX P w K mg base N qual scope f (.ref c') A outer s H E) [] (L2.start N vs) H s1 := inv_start S hr.hd e0 hl r x
  refine PySem.W.kla_codeExpr (wpAny_mono (ht.run [] s1 (L2.start N vs) H Q I hq) (fun v s' hv => ?_) fun e s' hs => hs)
  obtain ⟨w', H', J', rv, q⟩ := hv
  exact ⟨w', H', J'.os, J'.bare, J'.base, J'.hok, rv, q⟩
end Mp
/-! # MpKey2 -/
namespace Mp
open PySem PyProof.Rows PyProof.Rows.G
/-! ## sorted with a key that tells tuples: the end -/
section
variable {prog : Program} {w : World} {A : Around} {E : Value → Shared → Prop} {s : Shared} {a kS : Addr} {vs fs : List Value} {keys : Array Value} {e e1 : Nat} {P : PySem.Fin → Shared → Prop} {shape : Nat → Bool}
/-- the store behind the sort -/
def skHeap (h : Heap) (a kS : Addr) (out : Array Value) : Heap := (h.update kS (Obj.mapSeq fun _ => (#[] : Array Value))).update a (Obj.mapSeq fun _ => out)
theorem sk_tail {st : SortSt} {a₀ : Array Keyed} (hk : s.heap.get? kS = some (seqObj "list" keys e)) (ha : s.heap.get? a = some (seqObj "list" #[] e1)) (ne : kS ≠ a) (hz : a₀.size ≤ sizeLine) (hkz : keys.size ≤ sizeLine) (hp : (arrOf st).Perm a₀) (hfl : failedOf st = none)
    (h : P (.done (.ret .none)) { s with heap := skHeap s.heap a kS ((arrOf st).map (·.2)) }) :
    wpAny (model prog w) A (ksk_tail a false e1 (.ref kS) st) P E s := by
  have hsz : ((arrOf st).map (·.2)).size ≤ sizeLine := by rw [Array.size_map, hp.size_eq]; exact hz
  have s1 := Heap.SameBut.update s.heap kS (Obj.mapSeq fun _ => (#[] : Array Value))
  have na1 : (s.heap.update kS (Obj.mapSeq fun _ => (#[] : Array Value))).get? a = some (seqObj "list" #[] e1) := (s1.2 a ne.symm).trans ha
  unfold ksk_tail
  try dsimp only
  refine wpAny_bind (listUpdate_at hk rfl ?_ hkz (Nat.zero_le _))
  refine wpAny_bind (wpAny_letGo ?_)
  refine wpAny_bind (seqEpoch_at na1 rfl ?_)
  refine wpAny_bind (listUpdate_at na1 rfl ?_ (Nat.zero_le _) (by simp only [Bool.false_eq_true, if_false]; exact Nat.le_succ_of_le hsz))
  rw [hfl]
  simp only [bne_self_eq_false, Bool.false_eq_true, if_false]
  exact wpAny_pure h
theorem sk_end (hk : s.heap.get? kS = some (seqObj "list" keys e)) (ha : s.heap.get? a = some (seqObj "list" #[] e1)) (ne : kS ≠ a) (hl : keys.size = vs.length) (hz : vs.length ≤ sizeLine)
    (ht : TupsOf s.heap shape keys.toList fs) (hc : ∀ v, v ∈ keys.toList → ∃ l, tupKeyC s.heap shape v = some l)
    (h : ∀ st' : SortSt, (arrOf st').Perm (keys.zip vs.toArray) → SortedToK (tupKindC s.heap shape) (arrOf st') vs.length → Stable (tupKindC s.heap shape) (arrOf st') (keys.zip vs.toArray) →
      P (.done (.ret .none)) { s with heap := skHeap s.heap a kS ((arrOf st').map (·.2)) }) :
    wpAny (model prog w) A (ksk_end a false vs.toArray e1 (.ref kS) keys) P E s := by
  have hzs : (keys.zip vs.toArray).size = vs.length := by rw [Array.size_zip, hl, List.size_toArray, Nat.min_self]
  have hko : KeysOf (tupKindC s.heap shape) (keys.zip vs.toArray) := fun p hp => by
    rw [ksk_zip] at hp
    exact hc p.1 (List.of_mem_zip (a := p.1) (b := p.2) hp).1
  unfold ksk_end
  try dsimp only
  rw [if_neg Bool.false_ne_true]
  by_cases h2 : vs.toArray.size < 2
  · rw [if_pos h2, if_pos h2]
    refine wpAny_bind (wpAny_pure ?_)
    rw [StateT.run_pure]
    refine wpAny_bind (wpAny_pure ?_)
    try dsimp only
    refine sk_tail (st := SortSt.mk' general' (keys.zip vs.toArray) #[] 7 none) (a₀ := keys.zip vs.toArray) hk ha ne (by rw [hzs]; exact hz) (by rw [hl]; exact hz) (Array.Perm.refl _) rfl (h _ (Array.Perm.refl _) ?_ (Stable.refl _))
    intro i j hij hj
    rw [List.size_toArray] at h2
    have : i = j := by omega
    subst this; exact KeyOrd.kle_refl _
  · rw [if_neg h2, if_neg h2]
    rw [List.size_toArray] at h2
    refine wpAny_bind (tup_kind (vs := keys.toList) (by rw [TupsOf.length ht, Array.length_toList, hl]; omega) ht ?_)
    try dsimp only
    refine wpAny_bind (wpAny_mono (wpS_sortRunsSt (κ := tupKindC s.heap shape) (kd := tuples' true) (a₀ := keys.zip vs.toArray) (st := SortSt.mk' (tuples' true) (keys.zip vs.toArray) #[] 7 none)
      (Q := fun _ st' => (arrOf st').Perm (keys.zip vs.toArray) ∧ failedOf st' = none ∧ SortedToK (tupKindC s.heap shape) (arrOf st') (keys.zip vs.toArray).size ∧ Stable (tupKindC s.heap shape) (arrOf st') (keys.zip vs.toArray))
      (tupC_ltAt true (KeepsTups.refl _)) hko ⟨Array.Perm.refl _, rfl, rfl⟩ rfl (Stable.refl _) (by rw [hzs]; omega) fun st' a1 a2 a3 a4 => ⟨a1, a2, a3, a4⟩) ?_ fun _ _ e => e)
    rintro ⟨⟨⟩, st'⟩ s' ⟨rfl, hp, hf, hs, hst⟩
    try dsimp only
    rw [hzs] at hs
    exact sk_tail hk ha ne (by rw [hzs]; exact hz) (by rw [hl]; exact hz) hp hf (h st' hp hs hst)
end
end Mp
/-! # MpKey3 -/
namespace Mp
open PySem PySem.Spec PyProof.Rows PyProof.Rows.G L2
section
variable {X : Cx} {pins : List (Addr × Obj)} {σ : L2.St} {H : Hp} {s : Shared} {h' : Heap}
/-- an object of ours, written and tracked from now on -/
theorem adopt {it : Addr} {o : HO} {t' : Nat} (I : Inv X pins σ H s) (k : ∀ b u, b ≠ it → s.heap.get? b = some u → h'.get? b = some u) (hn : H it = none) (hL : it ≠ X.env.locals)
    (h1 : X.s_0.heap.objs.size ≤ it) (h2 : ∀ x c, X.env.cells.lookup x = some c → c ≠ it) (h3 : ∀ p ∈ X.pn ++ pins, p.1 ≠ it) (new : ObjOk X.prog X.w (upd H it o) h' it o) : Inv X pins σ (upd H it o) { s with heap := h', toks := t' } := by
  have nit : ∀ b u, H b = some u → b ≠ it := fun b u e z => by rw [z, hn] at e; cases e
  refine I.step (g' := s.gens) (d' := s.drawn) (ch := [it]) (fun b hb => ?_) (fun b o _ _ hc e _ => k b o (fun z => hc (by simp [z])) e) (fun b o _ _ hc e _ => ⟨o.slots, k b o (fun z => hc (by simp [z])) e⟩)
    (fun b o hc e n => by rw [upd_ne (fun z => hc (by simp [z]))]; exact n)
    (fun b o hc e => ⟨o, k b o (fun z => hc (by simp [z])) e⟩) (fun b xs e => by rw [upd_ne (nit _ _ e)]; exact e) (fun b o u e => by rw [upd_ne (nit _ _ e)]; exact e) (fun b ps e => ⟨#[], by rw [upd_ne (nit _ _ e), e]; simp⟩) (fun m hm => ?_) (fun b u e => ?_) I.bare
  · have e : b = it := by simpa using hb
    subst e
    exact ⟨.inr h1, hL, h2, h3⟩
  · obtain ⟨o, es, ep, ho, r⟩ := hm
    exact ⟨o, es, ep, k _ o (Ne.symm hL) ho, r⟩
  · by_cases hb : b = it
    · subst hb; rw [upd_same] at e; cases e; exact new
    · rw [upd_ne hb] at e
      refine (I.hok b u e).stay (fun c v hc q => k c v ?_ q) (fun c q => by rw [upd_ne (nit _ _ q)]; exact q) fun c xs q => by rw [upd_ne (nit _ _ q)]; exact q
      rcases hc with z | z
      · rw [z]; exact hb
      · exact nit c _ z
/-! ## the keys told one by one -/
def KeyLp (tb : V → Hp → VK → Prop) : List V → List Addr → Hp → (List Addr → Hp → Prop) → Prop
  | [], acc, H, Q => Q acc H
  | v :: vs, acc, H, Q => tb v H fun kv H' => ∃ b, kv = .ref b ∧ KeyLp tb vs (acc ++ [b]) H' Q
/-- an object at an address of ours -/
structure Ours (X : Cx) (a : Addr) : Prop where
  l : a ≠ X.env.locals
  f : a ∉ X.fs
  z : X.s_0.heap.objs.size ≤ a
  c : ∀ x c, X.env.cells.lookup x = some c → c ≠ a
  p : ∀ p ∈ X.pn, p.1 ≠ a
theorem Ours.of (I : Inv X pins σ H s) {a : Addr} (h : s.heap.objs.size ≤ a) : Ours X a := by
  refine ⟨fun e => ?_, I.nofs h, Nat.le_trans I.sz h, fun x c e z => ?_, fun p hp z => ?_⟩
  · have := I.lt; rw [← e] at this; exact Nat.lt_irrefl _ (Nat.lt_of_lt_of_le this h)
  · obtain ⟨v, o, ho, _⟩ := I.cell x c e
    have := Heap.lt_size ho
    rw [z] at this
    exact Nat.lt_irrefl _ (Nat.lt_of_lt_of_le this h)
  · have := Heap.lt_size (I.pin p (List.mem_append_left _ hp)).1
    rw [z] at this
    exact Nat.lt_irrefl _ (Nat.lt_of_lt_of_le this h)
theorem vals_at : ∀ {vs : List V} {us : List Value}, Vals vs us → ∀ {i : Nat} {u : Value}, us[i]? = some u → ∃ v, vs[i]? = some v ∧ RelV v u ∧ vs.drop i = v :: vs.drop (i + 1)
  | _, _, .nil, i, u, h => by simp at h
  | _, _, .cons r rs, 0, u, h => by
    cases h
    exact ⟨_, rfl, r, rfl⟩
  | _, _, .cons r rs, i + 1, u, h => by
    obtain ⟨v, h1, h2, h3⟩ := vals_at rs (i := i) (u := u) (by simpa using h)
    exact ⟨v, by simpa using h1, h2, by simpa using h3⟩
theorem sk_rest {A : Around} {tb : V → Hp → VK → Prop} {fo : Obj} {f a kS : Addr} {vs : List V} {us fs : List Value} {e1 : Nat} {shape : Nat → Bool} (r : Vals vs us) (hz : vs.length ≤ 1000)
    (turn : ∀ (v : V) (u : Value) (pl : List (Addr × Obj)) (s : Shared) (H : Hp) (Q : VK), Inv X pl σ H s → (f, fo) ∈ pl → RelV v u → tb v H Q → wpAny (model X.prog X.w) A (call (.ref f) [u]) (EP X pl σ Q) (fun _ _ => False) s)
    (ok : Ours X kS) (n1 : kS ≠ a) (n2 : kS ≠ f) (n3 : ∀ p ∈ pins, p.1 ≠ kS) {Q : List Addr → Hp → Prop} {P : PySem.Fin → Shared → Prop} {E : Value → Shared → Prop}
    (I : Inv X ((kS, seqObj "list" #[] 0) :: (a, seqObj "list" #[] e1) :: (f, fo) :: pins) σ H s) (h : KeyLp tb vs [] H Q)
    (fin : ∀ (s' : Shared) (H' : Hp) (kA : Array Value) (e : Nat) (acc : List Addr), Inv X ((kS, seqObj "list" kA e) :: (a, seqObj "list" #[] e1) :: (f, fo) :: pins) σ H' s' → kA.toList = acc.map Value.ref → kA.size = us.length → Q acc H' →
      wpAny (model X.prog X.w) A (ksk_end a false us.toArray e1 (.ref kS) kA) P E s') :
    wpAny (model X.prog X.w) A (ksk_rest a (.ref f) false us.toArray e1 (.ref kS)) P E s := by
  have hl : vs.length = us.length := r.length
  unfold ksk_rest
  refine wpAny_bind (wpAny_rule ?_)
  first
    | rw [List.forIn_toArray]
    | (rw [← Array.forIn_toList]; simp only [List.toList_toArray])
    | rw [← Array.forIn_toList]
  refine wpAny_bind (ksk_fold (fun i s' => ∃ H' kA e acc, Inv X ((kS, seqObj "list" kA e) :: (a, seqObj "list" #[] e1) :: (f, fo) :: pins) σ H' s' ∧ kA.toList = acc.map Value.ref ∧ kA.size = i ∧ KeyLp tb (vs.drop i) acc H' Q) us 0 s
    ⟨H, #[], 0, [], I, rfl, rfl, h⟩ ?step ?done)
  case step =>
    rintro j x s' hx ⟨H', kA, e, acc, I', hA, hs, hK⟩
    simp only [Nat.zero_add] at hs hK ⊢
    have hj : j < us.length := (List.getElem?_eq_some_iff.mp hx).1
    obtain ⟨v, hv, rv, hd⟩ := vals_at r hx
    rw [hd] at hK
    unfold KeyLp at hK
    refine wpAny_bind (wpAny_attempt (wpAny_mono (turn v x _ s' H' _ I' (by simp) rv hK) (fun ku s'' he => ?_) fun _ _ hF => hF.elim))
    obtain ⟨kv, H'', I2, ru, b, rfl, hK2⟩ := he
    obtain rfl : ku = Value.ref b := ru
    try dsimp only
    have pk := I2.pin (kS, seqObj "list" kA e) (List.mem_append_right _ (.head _))
    have pa := I2.pin (a, seqObj "list" #[] e1) (List.mem_append_right _ (.tail _ (.head _)))
    have pf := I2.pin (f, fo) (List.mem_append_right _ (.tail _ (.tail _ (.head _))))
    have s1 := Heap.SameBut.update s''.heap kS (Obj.mapSeq (·.push (.ref b)))
    obtain ⟨c2, hc2⟩ : ∃ c2, (s''.heap.update kS (Obj.mapSeq (·.push (.ref b)))).get? kS = some (seqObj "list" (kA.push (.ref b)) c2) := ⟨_, get?_update_seq pk.1 (·.push (.ref b))⟩
    refine wpAny_bind (listUpdate_at pk.1 rfl ?_ (by rw [sizeLine_eq]; omega) (Nat.le_trans (Nat.le_of_eq (Array.size_push ..)) (by rw [sizeLine_eq]; omega)))
    have I3 : Inv X ((a, seqObj "list" #[] e1) :: (f, fo) :: pins) σ H'' s'' := I2.pins_of fun p hp => I2.pin p (List.mem_append_right _ (.tail _ hp))
    have I4 := I3.turned (t' := s''.toks) (it := kS) (h' := s''.heap.update kS (Obj.mapSeq (·.push (.ref b)))) (fun c o hc q => (s1.2 c hc).trans q) pk.2.1 ok.l (.inr ok.z) ok.c (fun p hp => by
      rcases List.mem_append.mp hp with hp | hp
      · exact ok.p p hp
      · rcases List.mem_cons.mp hp with rfl | hp
        · exact n1.symm
        · rcases List.mem_cons.mp hp with rfl | hp
          · exact n2.symm
          · exact n3 p hp)
    have I5 : Inv X ((kS, seqObj "list" (kA.push (.ref b)) c2) :: (a, seqObj "list" #[] e1) :: (f, fo) :: pins) σ H'' { s'' with heap := s''.heap.update kS (Obj.mapSeq (·.push (.ref b))), toks := s''.toks } := I4.pins_of fun p hp => by
      rcases List.mem_cons.mp hp with rfl | hp
      · exact ⟨hc2, pk.2.1, pk.2.2.1, pk.2.2.2.1, fun v q => nomatch q⟩
      · exact I4.pin p (List.mem_append_right _ hp)
    exact wpAny_pure ⟨rfl, H'', kA.push (.ref b), c2, acc ++ [b], I5, by rw [Array.toList_push, hA, List.map_append]; rfl, by rw [Array.size_push, hs], hK2⟩
  case done =>
    rintro s' ⟨H', kA, e, acc, I', hA, hs, hK⟩
    have pk := I'.pin (kS, seqObj "list" kA e) (List.mem_append_right _ (.head _))
    have e3 : vs.drop (0 + us.length) = [] := by rw [Nat.zero_add, ← hl]; simp
    rw [e3] at hK
    unfold KeyLp at hK
    try dsimp only
    refine wpAny_bind (listItems_at pk.1 rfl ?_)
    exact fin s' H' kA e acc I' hA (by rw [hs]; omega) hK
end
end Mp
/-! # MpKey4 -/
namespace Mp
open PySem PySem.Spec PyProof.Rows PyProof.Rows.G L2
/-! ## the keys as they are compared -/
def kc1 : Key → Int ⊕ List Nat
  | .inl i => .inl i
  | .inr x => .inr x.cps.toList
abbrev kc (ks : List Key) : List (Int ⊕ List Nat) := ks.map kc1
def shOk (shape : Nat → Bool) : Nat → List Key → Bool
  | _, [] => true
  | i, .inl _ :: r => !shape i && shOk shape (i + 1) r
  | i, .inr _ :: r => shape i && shOk shape (i + 1) r
theorem tupItems_of {shape : Nat → Bool} : ∀ {i : Nat} {ks : List Key} {us : List Value}, Vals (ks.map kV) us → shOk shape i ks = true → tupItems shape i us = some (kc ks)
  | i, [], us, r, _ => by cases r; rfl
  | i, .inl a :: ks, us, r, h => by
    rw [List.map_cons] at r
    cases r with
    | cons r rs =>
      obtain ⟨t, rfl⟩ := r
      have h' : (!shape i && shOk shape (i + 1) ks) = true := h
      rw [Bool.and_eq_true] at h'
      have hs : shape i = false := by simpa using h'.1
      unfold tupItems
      rw [if_neg (by simp [hs]), tupItems_of rs h'.2]
      rfl
  | i, .inr a :: ks, us, r, h => by
    rw [List.map_cons] at r
    cases r with
    | cons r rs =>
      obtain ⟨t, rfl⟩ := r
      have h' : (shape i && shOk shape (i + 1) ks) = true := h
      rw [Bool.and_eq_true] at h'
      unfold tupItems
      rw [if_pos h'.1, tupItems_of rs h'.2]
      rfl
section
variable {X : Cx} {pins : List (Addr × Obj)} {σ : L2.St} {H : Hp} {s : Shared} {shape : Nat → Bool}
theorem tupC_of (I : Inv X pins σ H s) {b : Addr} {ks : List Key} (h : SqT X.K H b (ks.map kV)) (hs : shOk shape 0 ks = true) : tupKeyC s.heap shape (.ref b) = some (kc ks) := by
  obtain ⟨its, r, ⟨o, ho, hc, n, hd⟩, _⟩ := I.tuple h
  have e := tupItems_of r hs
  unfold tupKeyC
  have h1 : isTupObj s.heap (.ref b) = true := by
    unfold isTupObj
    simp only [ho, hc]
    rfl
  rw [if_pos h1]
  unfold tupKey
  simp only [ho, hd]
  exact e
theorem tupO_of (I : Inv X pins σ H s) {b : Addr} {ks : List Key} (h : SqT X.K H b (ks.map kV)) (hs : shOk shape 0 ks = true) (hn : ks ≠ []) : ∃ f, TupOf s.heap shape (.ref b) f := by
  obtain ⟨its, r, ⟨o, ho, hc, n, hd⟩, _⟩ := I.tuple h
  cases ks with
  | nil => exact absurd rfl hn
  | cons k ks =>
    rw [List.map_cons] at r
    cases r with
    | cons r rs =>
      rename_i u us
      refine ⟨u, b, o, _, n, rfl, ho, hc, hd, by simp, fun e => ?_, fun e => ?_⟩
      · cases k with
        | inl i => obtain ⟨t, rfl⟩ := r; exact ⟨i, t, rfl⟩
        | inr x =>
          have : (shape 0 && shOk shape 1 ks) = true := hs
          rw [e] at this
          cases this
      · cases k with
        | inl i =>
          have : (!shape 0 && shOk shape 1 ks) = true := hs
          rw [e] at this
          cases this
        | inr x => obtain ⟨t, rfl⟩ := r; exact ⟨x, t, rfl⟩
theorem tupsO_of (I : Inv X pins σ H s) : ∀ {acc : List Addr} {ksl : List (List Key)}, ksl.length = acc.length → (∀ (i : Nat) (b : Addr) (ks : List Key), acc[i]? = some b → ksl[i]? = some ks → SqT X.K H b (ks.map kV)) → (∀ ks ∈ ksl, shOk shape 0 ks = true ∧ ks ≠ []) → ∃ fs, TupsOf s.heap shape (acc.map Value.ref) fs
  | [], ksl, _, _, _ => ⟨[], .nil⟩
  | b :: acc, [], hl, _, _ => by simp at hl
  | b :: acc, ks :: ksl, hl, h, hk => by
    obtain ⟨fs, t⟩ := tupsO_of I (acc := acc) (ksl := ksl) (by simpa using hl) (fun i c ks' h1 h2 => h (i + 1) c ks' (by simpa using h1) (by simpa using h2)) (fun k hk' => hk k (List.mem_cons_of_mem _ hk'))
    obtain ⟨k1, k2⟩ := hk ks List.mem_cons_self
    obtain ⟨f, t0⟩ := tupO_of I (h 0 b ks rfl rfl) k1 k2
    exact ⟨f :: fs, .cons t0 t⟩
end
theorem perm_map_inv {α β : Type} {g : α → β} : ∀ {l' m : List β}, l'.Perm m → ∀ l : List α, m = l.map g → ∃ l2 : List α, l2.Perm l ∧ l' = l2.map g := by
  intro l' m h
  induction h with
  | nil => intro l e; exact ⟨[], (by
    cases l with
    | nil => exact .nil
    | cons a l => cases e), rfl⟩
  | cons x p ih =>
    intro l e
    cases l with
    | nil => cases e
    | cons a l =>
      rw [List.map_cons] at e
      injection e with e1 e2
      obtain ⟨l2, p2, e3⟩ := ih l e2
      exact ⟨a :: l2, p2.cons a, by rw [List.map_cons, e3, e1]⟩
  | swap x y p =>
    intro l e
    cases l with
    | nil => cases e
    | cons a l =>
      cases l with
      | nil => cases e
      | cons b l =>
        rw [List.map_cons, List.map_cons] at e
        injection e with e1 e2
        injection e2 with e2 e3
        exact ⟨b :: a :: l, .swap a b l, by rw [List.map_cons, List.map_cons, e1, e2, e3]⟩
  | trans p q ih1 ih2 =>
    intro l e
    obtain ⟨l2, p2, e2⟩ := ih2 l e
    obtain ⟨l3, p3, e3⟩ := ih1 l2 e2
    exact ⟨l3, p3.trans p2, e3⟩
end Mp
/-! # MpKey5 -/
namespace Mp
open PySem PySem.Spec PyProof.Rows PyProof.Rows.G L2
abbrev Q4 := Addr × List Key × V × Value
def g4 (t : Q4) : Keyed := (.ref t.1, t.2.2.2)
theorem zip4 : ∀ {acc : List Addr} {ksl : List (List Key)} {vs : List V} {us : List Value}, ksl.length = acc.length → vs.length = acc.length → us.length = acc.length →
    (acc.map Value.ref).zip us = (acc.zip (ksl.zip (vs.zip us))).map g4 ∧ (acc.zip (ksl.zip (vs.zip us))).map (fun t : Q4 => (t.2.1, t.2.2.1)) = ksl.zip vs
  | [], ksl, vs, us, h1, h2, h3 => by
    cases ksl with
    | nil => simp
    | cons => simp at h1
  | b :: acc, [], _, _, h1, _, _ => by simp at h1
  | b :: acc, k :: ksl, [], _, _, h2, _ => by simp at h2
  | b :: acc, k :: ksl, v :: vs, [], _, _, h3 => by simp at h3
  | b :: acc, k :: ksl, v :: vs, u :: us, h1, h2, h3 => by
    obtain ⟨e1, e2⟩ := zip4 (acc := acc) (ksl := ksl) (vs := vs) (us := us) (by simpa using h1) (by simpa using h2) (by simpa using h3)
    constructor
    · rw [List.map_cons, List.zip_cons_cons, List.zip_cons_cons, List.zip_cons_cons, List.zip_cons_cons, List.map_cons, e1]
      rfl
    · rw [List.zip_cons_cons, List.zip_cons_cons, List.zip_cons_cons, List.zip_cons_cons, List.map_cons, e2]
theorem mem4 {acc : List Addr} {ksl : List (List Key)} {vs : List V} {us : List Value} {t : Q4} (h : t ∈ acc.zip (ksl.zip (vs.zip us))) : ∃ i : Nat, acc[i]? = some t.1 ∧ ksl[i]? = some t.2.1 ∧ vs[i]? = some t.2.2.1 ∧ us[i]? = some t.2.2.2 := by
  obtain ⟨i, hi⟩ := List.mem_iff_getElem?.mp h
  obtain ⟨h1, h2⟩ := List.getElem?_zip_eq_some.mp hi
  obtain ⟨h3, h4⟩ := List.getElem?_zip_eq_some.mp h2
  obtain ⟨h5, h6⟩ := List.getElem?_zip_eq_some.mp h4
  exact ⟨i, h1, h3, h5, h6⟩
theorem vals_ix : ∀ {vs : List V} {us : List Value}, Vals vs us → ∀ {i : Nat} {v : V} {u : Value}, vs[i]? = some v → us[i]? = some u → RelV v u
  | _, _, .nil, i, v, u, h, _ => by simp at h
  | _, _, .cons r rs, 0, v, u, h1, h2 => by cases h1; cases h2; exact r
  | _, _, .cons r rs, i + 1, v, u, h1, h2 => vals_ix rs (i := i) (by simpa using h1) (by simpa using h2)
theorem vals_map {α : Type} {f : α → V} {g : α → Value} : ∀ {l : List α}, (∀ t ∈ l, RelV (f t) (g t)) → Vals (l.map f) (l.map g)
  | [], _ => .nil
  | t :: l, h => .cons (h t List.mem_cons_self) (vals_map fun x hx => h x (List.mem_cons_of_mem _ hx))
section
variable {X : Cx} {pins : List (Addr × Obj)} {σ : L2.St} {H : Hp} {s : Shared} {shape : Nat → Bool}
/-- what is asked behind the keys -/
def KeyEnd (K : PySem.W.Frag) (shape : Nat → Bool) (vs : List V) (Q : VK) (acc : List Addr) (H : Hp) : Prop :=
  ∃ ksl : List (List Key), ksl.length = acc.length ∧ (∀ (i : Nat) (b : Addr) (ks : List Key), acc[i]? = some b → ksl[i]? = some ks → SqT K H b (ks.map kV)) ∧ (∀ ks ∈ ksl, shOk shape 0 ks = true ∧ ks ≠ []) ∧
    ∀ (T : List (List Key × V)) (a : Addr), T.Perm (ksl.zip vs) → T.Pairwise (fun p q => lexLt itemOrd (kc q.1) (kc p.1) = false) → H a = none → Q (.ref a) (upd H a (.lst (T.map (·.2))))
theorem sk_sorted {fo : Obj} {f l : Addr} {vs : List V} {tb : V → Hp → VK → Prop} {Q : VK} (I : Inv X ((f, fo) :: pins) σ H s) (hs : SqL X.K H l vs) (hz : vs.length ≤ 1000)
    (turn : ∀ (v : V) (u : Value) (pl : List (Addr × Obj)) (s : Shared) (H : Hp) (Q : VK), Inv X pl σ H s → (f, fo) ∈ pl → RelV v u → tb v H Q → wpAny (model X.prog X.w) X.A.in1.in1 (call (.ref f) [u]) (EP X pl σ Q) (fun _ _ => False) s)
    (h : KeyLp tb vs [] H (KeyEnd X.K shape vs Q)) {E : Value → Shared → Prop} :
    wpAny (model X.prog X.w) X.A (call (.builtin "sorted") [.ref l] [(Str.ofString "key", .ref f)]) (EP X pins σ Q) E s := by
  obtain ⟨its, rv, hl, _⟩ := I.list hs
  have hlen : vs.length = its.length := rv.length
  refine call_function_entry_kw kind_sorted plain_sorted entry_sorted (ksk_s1 _ _) ?_
  unfold Builtin.«sorted»
  refine wpAny_bind (m := checkCount "sorted" 1 1 _) (wpAny_pure ?_)
  refine wpAny_bind (collect_list hl.isList ?_ (by rw [sizeLine_eq]; omega))
  refine wpAny_bind (wpAny_newList ?_ (by rw [sizeLine_eq]; omega))
  have hsz : ((s.heap.push (seqObj "list" #[] 0)).update s.heap.objs.size (Obj.mapSeq (· ++ its.toArray))).objs.size = s.heap.objs.size + 1 := by
    rw [Heap.size_update, size_push']
  have hoL : (((s.heap.push (seqObj "list" #[] 0)).update s.heap.objs.size (Obj.mapSeq (· ++ its.toArray))).push (seqObj "list" its.toArray 0)).get? (s.heap.objs.size + 1) = some (seqObj "list" its.toArray 0) := by
    rw [← hsz]; exact Heap.get?_push_size _ rfl
  have keep : ∀ b o, s.heap.get? b = some o → (((s.heap.push (seqObj "list" #[] 0)).update s.heap.objs.size (Obj.mapSeq (· ++ its.toArray))).push (seqObj "list" its.toArray 0)).get? b = some o := fun b o q => by
    have hlt : b < s.heap.objs.size := Heap.lt_size q
    refine Heap.get?_push_of_some _ ?_
    rw [Heap.get?_update_ne _ _ _ _ (Nat.ne_of_lt hlt)]
    exact Heap.get?_push_of_some _ q
  show wpAny _ _ _ _ _ { s with heap := ((s.heap.push (seqObj "list" #[] 0)).update s.heap.objs.size (Obj.mapSeq (· ++ its.toArray))).push (seqObj "list" its.toArray 0) }
  rw [hsz]
  have I1 := I.kept (t' := s.toks) keep
  have oa : Ours X (s.heap.objs.size + 1) := Ours.of I (Nat.le_succ _)
  have na : H (s.heap.objs.size + 1) = none := I.hok.fresh (Nat.le_succ _)
  have pne : ∀ p ∈ (f, fo) :: pins, p.1 ≠ s.heap.objs.size + 1 := fun p hp => Nat.ne_of_lt (Nat.lt_succ_of_lt (Heap.lt_size (I.pin p (List.mem_append_right _ hp)).1))
  generalize ((s.heap.push (seqObj "list" #[] 0)).update s.heap.objs.size (Obj.mapSeq (· ++ its.toArray))).push (seqObj "list" its.toArray 0) = h1 at *
  generalize s.heap.objs.size + 1 = a at *
  refine wpAny_bind (wpAny_holding (wpAny_call_entry_kw slot_list_sort ⟨_, hoL, rfl⟩ entry_list_sort ?body (ksk_l1 _ _)))
  case body =>
    show wpAny (model X.prog X.w) X.A.in1.in1 (Builtin.«list.sort» ⟨[.ref a], [(Str.ofString "key", .ref f)]⟩) _ _ _
    rw [ksk_t1]
    have s1 := Heap.SameBut.update h1 a (Obj.mapSeq fun _ => (#[] : Array Value))
    obtain ⟨e1, ho1⟩ : ∃ e1, (h1.update a (Obj.mapSeq fun _ => (#[] : Array Value))).get? a = some (seqObj "list" #[] e1) := ⟨_, get?_update_seq hoL fun _ => #[]⟩
    have I2 := I1.turned (t' := s.toks) (it := a) (h' := h1.update a (Obj.mapSeq fun _ => (#[] : Array Value))) (fun c o hc q => (s1.2 c hc).trans q) na oa.l (.inr oa.z) oa.c (fun p hp => by
      rcases List.mem_append.mp hp with hp | hp
      · exact oa.p p hp
      · exact pne p hp)
    unfold ksk_tree
    refine wpAny_bind (listItems_at hoL rfl ?_)
    refine wpAny_bind (listUpdate_at hoL rfl ?_ (by rw [List.size_toArray, sizeLine_eq]; omega) (Nat.zero_le _))
    refine wpAny_bind (seqEpoch_at ho1 rfl ?_)
    refine wpAny_bind (wpAny_newTuple ?_ (by show its.length ≤ _; rw [sizeLine_eq]; omega))
    refine wpAny_bind (wpAny_newList ?_ (Nat.zero_le _))
    refine wpAny_holding ?_
    have I3 := I2.kept (t' := s.toks) (h' := (((h1.update a (Obj.mapSeq fun _ => (#[] : Array Value))).push (seqObj "tuple" its.toArray 0)).push (seqObj "list" #[] 0))) (fun b o q => Heap.get?_push_of_some _ (Heap.get?_push_of_some _ q))
    have hkS : (((h1.update a (Obj.mapSeq fun _ => (#[] : Array Value))).push (seqObj "tuple" its.toArray 0)).push (seqObj "list" #[] 0)).get? ((h1.update a (Obj.mapSeq fun _ => (#[] : Array Value))).push (seqObj "tuple" its.toArray 0)).objs.size = some (seqObj "list" #[] 0) := Heap.get?_push_size _ rfl
    have hge : (h1.update a (Obj.mapSeq fun _ => (#[] : Array Value))).objs.size ≤ ((h1.update a (Obj.mapSeq fun _ => (#[] : Array Value))).push (seqObj "tuple" its.toArray 0)).objs.size := by rw [size_push']; exact Nat.le_succ _
    have ok : Ours X ((h1.update a (Obj.mapSeq fun _ => (#[] : Array Value))).push (seqObj "tuple" its.toArray 0)).objs.size := Ours.of I2 hge
    have nk : H ((h1.update a (Obj.mapSeq fun _ => (#[] : Array Value))).push (seqObj "tuple" its.toArray 0)).objs.size = none := I2.hok.fresh hge
    have ltk : ∀ {b : Addr} {o : Obj}, (h1.update a (Obj.mapSeq fun _ => (#[] : Array Value))).get? b = some o → b ≠ ((h1.update a (Obj.mapSeq fun _ => (#[] : Array Value))).push (seqObj "tuple" its.toArray 0)).objs.size := fun q => Nat.ne_of_lt (Nat.lt_of_lt_of_le (Heap.lt_size q) hge)
    have ha3 : (((h1.update a (Obj.mapSeq fun _ => (#[] : Array Value))).push (seqObj "tuple" its.toArray 0)).push (seqObj "list" #[] 0)).get? a = some (seqObj "list" #[] e1) := Heap.get?_push_of_some _ (Heap.get?_push_of_some _ ho1)
    have nka := (ltk ho1).symm
    have nkp : ∀ p ∈ (f, fo) :: pins, p.1 ≠ ((h1.update a (Obj.mapSeq fun _ => (#[] : Array Value))).push (seqObj "tuple" its.toArray 0)).objs.size := fun p hp => ltk (I2.pin p (List.mem_append_right _ hp)).1
    have I4 : Inv X ((((h1.update a (Obj.mapSeq fun _ => (#[] : Array Value))).push (seqObj "tuple" its.toArray 0)).objs.size, seqObj "list" #[] 0) :: (a, seqObj "list" #[] e1) :: (f, fo) :: pins) σ H _ := I3.pins_of fun p hp => by
      rcases List.mem_cons.mp hp with rfl | hp
      · exact ⟨hkS, nk, ok.l, ok.f, fun v q => nomatch q⟩
      · rcases List.mem_cons.mp hp with rfl | hp
        · exact ⟨ha3, na, oa.l, oa.f, fun v q => nomatch q⟩
        · exact I3.pin p (List.mem_append_right _ hp)
    generalize ((h1.update a (Obj.mapSeq fun _ => (#[] : Array Value))).push (seqObj "tuple" its.toArray 0)).objs.size = kS at *
    refine sk_rest (fs := []) (shape := shape) (s := { s with heap := ((h1.update a (Obj.mapSeq fun _ => (#[] : Array Value))).push (seqObj "tuple" its.toArray 0)).push (seqObj "list" #[] 0) }) rv hz turn ok nka (fun e => nkp _ (.head _) e.symm) (fun p hp => nkp p (.tail _ hp)) I4 h fun s' H' kA e acc I' hA hks hq => ?_
    obtain ⟨ksl, k1, k2, k3, k4⟩ := hq
    have la : acc.length = its.length := by
      have := congrArg List.length hA
      rw [List.length_map, Array.length_toList] at this
      omega
    have pk := I'.pin (kS, seqObj "list" kA e) (List.mem_append_right _ (.head _))
    have pa := I'.pin (a, seqObj "list" #[] e1) (List.mem_append_right _ (.tail _ (.head _)))
    obtain ⟨fs, ht⟩ := tupsO_of (shape := shape) I' k1 k2 k3
    have kof : ∀ (i : Nat) (b : Addr) (ks : List Key), acc[i]? = some b → ksl[i]? = some ks → tupKeyC s'.heap shape (.ref b) = some (kc ks) := fun i b ks q1 q2 => tupC_of I' (k2 i b ks q1 q2) (k3 ks (List.mem_of_getElem? q2)).1
    refine sk_end (shape := shape) (fs := fs) pk.1 pa.1 nka hks (by rw [sizeLine_eq]; omega) (by rw [hA]; exact ht) (fun v hv => ?_) fun st' hp hso _ => ?_
    · rw [hA] at hv
      obtain ⟨b, hb, rfl⟩ := List.mem_map.mp hv
      obtain ⟨i, hi⟩ := List.mem_iff_getElem?.mp hb
      have hi' := (List.getElem?_eq_some_iff.mp hi).1
      exact ⟨_, kof i b _ hi (List.getElem?_eq_getElem (by omega))⟩
    · obtain ⟨z1, z2⟩ := zip4 (acc := acc) (ksl := ksl) (vs := vs) (us := its) k1 (by omega) (by omega)
      have pl : (arrOf st').toList.Perm ((acc.zip (ksl.zip (vs.zip its))).map g4) := by
        rw [← z1, ← hA, ← ksk_zip]
        exact Array.perm_iff_toList_perm.mp hp
      obtain ⟨l2, p2, e2⟩ := perm_map_inv pl _ rfl
      have m2 : ∀ t ∈ l2, ∃ i : Nat, acc[i]? = some t.1 ∧ ksl[i]? = some t.2.1 ∧ vs[i]? = some t.2.2.1 ∧ its[i]? = some t.2.2.2 := fun t ht => mem4 (p2.mem_iff.mp ht)
      have outE : ((arrOf st').map (·.2)).toList = l2.map (fun t : Q4 => t.2.2.2) := by
        rw [Array.toList_map, e2, List.map_map]
        rfl
      have vO : Vals (l2.map fun t : Q4 => t.2.2.1) (l2.map fun t : Q4 => t.2.2.2) := vals_map fun t ht => by
        obtain ⟨i, _, _, q3, q4⟩ := m2 t ht
        exact vals_ix rv q3 q4
      have l2n : l2.length = its.length := by
        have := p2.length_eq
        rw [List.length_zip, List.length_zip, List.length_zip] at this
        omega
      have pw : (l2.map fun t : Q4 => (t.2.1, t.2.2.1)).Pairwise (fun p q => lexLt itemOrd (kc q.1) (kc p.1) = false) := by
        rw [List.pairwise_map, List.pairwise_iff_getElem]
        intro i j hi hj hij
        have := hso i j (Nat.le_of_lt hij) (by omega)
        have kk : ∀ n (hn : n < l2.length), KK (tupKindC s'.heap shape) (arrOf st') n = kc (l2[n]).2.1 := fun n hn => by
          have ge : (arrOf st')[n]? = some (g4 (l2[n])) := by
            rw [← Array.getElem?_toList, e2, List.getElem?_map, List.getElem?_eq_getElem hn]
            rfl
          unfold KK
          rw [ge]
          obtain ⟨i', q1, q2, _, _⟩ := m2 _ (List.getElem_mem hn)
          have := kof i' _ _ q1 q2
          show (tupKeyC s'.heap shape (.ref (l2[n]).1)).getD [] = _
          rw [this]
          rfl
        rw [kk i hi, kk j hj] at this
        exact this
      refine ⟨_, rfl, ?_⟩
      refine wpAny_pure ⟨_, rfl, ?_⟩
      have q := k4 (l2.map fun t : Q4 => (t.2.1, t.2.2.1)) a (by rw [← z2]; exact p2.map _) pw pa.2.1
      rw [List.map_map] at q
      have sk := Heap.SameBut.update s'.heap kS (Obj.mapSeq fun _ => (#[] : Array Value))
      have J0 : Inv X pins σ H' s' := I'.pins_of fun p hp => I'.pin p (List.mem_append_right _ (.tail _ (.tail _ (.tail _ hp))))
      have J1 := J0.turned (t' := s'.toks) (it := kS) (h' := s'.heap.update kS (Obj.mapSeq fun _ => (#[] : Array Value))) (fun c o hc q => (sk.2 c hc).trans q) pk.2.1 ok.l (.inr ok.z) ok.c (fun p hp => by
        rcases List.mem_append.mp hp with hp | hp
        · exact ok.p p hp
        · exact nkp p (.tail _ hp))
      have pa1 : (s'.heap.update kS (Obj.mapSeq fun _ => (#[] : Array Value))).get? a = some (seqObj "list" #[] e1) := (sk.2 a nka.symm).trans pa.1
      have outE' : ((arrOf st').map (·.2)).toList = l2.map (fun t : Q4 => t.2.2.2) := outE
      show EP X pins σ Q (.ref a) { s' with heap := skHeap s'.heap a kS ((arrOf st').map (·.2)) }
      generalize (arrOf st').map (·.2) = out at outE' ⊢
      have sa := Heap.SameBut.update (s'.heap.update kS (Obj.mapSeq fun _ => (#[] : Array Value))) a (Obj.mapSeq fun _ => out)
      obtain ⟨c2, hc2⟩ : ∃ c2, (skHeap s'.heap a kS out).get? a = some (seqObj "list" out c2) := ⟨_, get?_update_seq pa1 fun _ => out⟩
      have J2 := adopt (t' := s'.toks) (it := a) (h' := skHeap s'.heap a kS out) (o := .lst (l2.map fun t : Q4 => t.2.2.1)) J1 (fun c o hc q => (sa.2 c hc).trans q) pa.2.1 oa.l oa.z oa.c (fun p hp => by
        rcases List.mem_append.mp hp with hp | hp
        · exact oa.p p hp
        · exact pne p (.tail _ hp)) ⟨by rw [List.length_map, sizeLine_eq]; omega, _, c2, vO, by rw [← outE', Array.toArray_toList]; exact hc2⟩
      exact ⟨.ref a, _, J2, rfl, q⟩
end
end Mp
/-! # MpKey6 -/
namespace Mp
open PySem PySem.Spec PyProof.Rows PyProof.Rows.G L2 LamX
/-! ## sorted(xs, key=lambda x: (..)) -/
/-- the keys of the items, one by one -/
def keysL (gb : DE) (n : Nat) : List D → Sto → Option (List (List Key) × Sto)
  | [], s => some ([], s)
  | d :: ds, s => match gb (some d :: List.replicate (n - 1) none) s with
    | .ok (.tup xs) s1 => match keysK xs, keysL gb n ds s1 with
      | some k, some (ks, s2) => some (k :: ks, s2)
      | _, _ => none
    | _ => none
def kle (p q : List Key × D) : Bool := !(lexLt itemOrd (kc q.1) (kc p.1))
def sortKD (ks : List (List Key)) (ds : List D) : List D := ((ks.zip ds).mergeSort kle).map (·.2)
def oSortK (kt n : Nat) (shape : Nat → Bool) (gb : DE) (x : D) (s1 : Sto) : Res D := match s1[kt]?, lqOf s1 x with
  | some (.tbl q), some ds => if q = kt ∧ ds.length ≤ 1000 then match keysL gb n ds s1 with
    | some (ks, s2) => if (ks.all fun k => shOk shape 0 k && !k.isEmpty) = true ∧ ks.Nodup then .ok (.loc s2.length) (s2 ++ [.lst (sortKD ks ds)]) else .stuck
    | none => .stuck
    else .stuck
  | _, _ => .stuck
def dSortK (kt n : Nat) (shape : Nat → Bool) (fa : DA) (gb : DE) : DE := fun δ s => (fa δ s).bind fun xs s1 => match xs with
  | [x] => oSortK kt n shape gb x s1
  | _ => .stuck
theorem kc_inj : ∀ {a b : List Key}, kc a = kc b → a = b
  | [], [], _ => rfl
  | [], _ :: _, h => by cases h
  | _ :: _, [], h => by cases h
  | x :: a, y :: b, h => by
    rw [kc, kc, List.map_cons, List.map_cons] at h
    injection h with h1 h2
    rw [kc_inj h2]
    congr 1
    cases x with
    | inl i => cases y with
      | inl j => cases h1; rfl
      | inr j => cases h1
    | inr i => cases y with
      | inl j => cases h1
      | inr j =>
        have e : i.cps.toList = j.cps.toList := by
          unfold kc1 at h1
          exact Sum.inr.inj h1
        congr 1
        cases i
        cases j
        congr 1
        exact Array.toList_inj.mp e
theorem kle_trans (a b c : List Key × D) (h1 : kle a b = true) (h2 : kle b c = true) : kle a c = true := by
  unfold kle at *
  rw [Bool.not_eq_true'] at *
  cases h : lexLt itemOrd (kc c.1) (kc a.1) with
  | false => rfl
  | true =>
    rcases (listOrd itemOrd).negTrans _ (kc b.1) _ h with q | q
    · rw [show lexLt itemOrd (kc c.1) (kc b.1) = true from q] at h2; cases h2
    · rw [show lexLt itemOrd (kc b.1) (kc a.1) = true from q] at h1; cases h1
theorem kle_total (a b : List Key × D) : (kle a b || kle b a) = true := by
  unfold kle
  cases h : lexLt itemOrd (kc b.1) (kc a.1) with
  | false => rfl
  | true =>
    cases h2 : lexLt itemOrd (kc a.1) (kc b.1) with
    | false => rfl
    | true =>
      have := (listOrd itemOrd).trans _ _ _ h h2
      have i := (listOrd itemOrd).irrefl (kc b.1)
      rw [this] at i
      cases i
/-- sorted lists with keys apart are alike -/
theorem sort_one : ∀ {l m : List (List Key × D)}, l.Perm m → (l.map (·.1)).Nodup → l.Pairwise (fun p q => kle p q = true) → m.Pairwise (fun p q => kle p q = true) → l = m
  | [], m, p, _, _, _ => (List.nil_perm.mp p).symm
  | x :: l, [], p, _, _, _ => by
    have := p.length_eq
    simp at this
  | x :: l, y :: m, p, nd, h1, h2 => by
    obtain ⟨a1, a2⟩ := List.pairwise_cons.mp h1
    obtain ⟨b1, b2⟩ := List.pairwise_cons.mp h2
    have xm : x ∈ y :: m := p.mem_iff.mp List.mem_cons_self
    have ym : y ∈ x :: l := p.mem_iff.mpr List.mem_cons_self
    have e : x = y := by
      rcases List.mem_cons.mp xm with q | q
      · exact q
      · rcases List.mem_cons.mp ym with r | r
        · exact r.symm
        · have k1 := a1 y r
          have k2 := b1 x q
          unfold kle at k1 k2
          rw [Bool.not_eq_true'] at k1 k2
          have ek : x.1 = y.1 := kc_inj ((listOrd itemOrd).total _ _ k2 k1)
          rw [List.map_cons, List.nodup_cons] at nd
          exact absurd (List.mem_map.mpr ⟨y, r, ek.symm⟩) nd.1
    subst e
    rw [List.map_cons, List.nodup_cons] at nd
    rw [sort_one ((List.perm_cons x).mp p) nd.2 a2 b2]
theorem zip3 : ∀ {ks : List (List Key)} {ds : List D} {vs : List V}, ks.length = ds.length → vs.length = ds.length → (ks.zip (ds.zip vs)).map (fun t : List Key × D × V => (t.1, t.2.2)) = ks.zip vs ∧ (ks.zip (ds.zip vs)).map (fun t : List Key × D × V => (t.1, t.2.1)) = ks.zip ds
  | [], ds, vs, h1, h2 => by simp
  | k :: ks, [], vs, h1, h2 => by simp at h1
  | k :: ks, d :: ds, [], h1, h2 => by simp at h2
  | k :: ks, d :: ds, v :: vs, h1, h2 => by
    obtain ⟨e1, e2⟩ := zip3 (ks := ks) (ds := ds) (vs := vs) (by simpa using h1) (by simpa using h2)
    exact ⟨by rw [List.zip_cons_cons, List.zip_cons_cons, List.zip_cons_cons, List.map_cons, e1], by rw [List.zip_cons_cons, List.zip_cons_cons, List.zip_cons_cons, List.map_cons, e2]⟩
theorem rps_ix {T : Tb} {F : Hp} {ι : List Addr} {ds : List D} {vs : List V} (r : Rps T F ι ds vs) {i : Nat} {d : D} {v : V} (h1 : ds[i]? = some d) (h2 : vs[i]? = some v) : Rp T F ι d v := by
  obtain ⟨w, e1, e2⟩ := Rps.get r h1
  rw [h2] at e1
  cases e1
  exact e2
theorem rps_map {T : Tb} {F : Hp} {ι : List Addr} {α : Type} {f : α → D} {g : α → V} : ∀ {l : List α}, (∀ t ∈ l, Rp T F ι (f t) (g t)) → Rps T F ι (l.map f) (l.map g)
  | [], _ => .nil
  | t :: l, h => .cons (h t List.mem_cons_self) (rps_map fun x hx => h x (List.mem_cons_of_mem _ hx))
/-- what stands in the sorted list -/
theorem sorted_rps {T : Tb} {F : Hp} {ι : List Addr} {ks : List (List Key)} {ds : List D} {vs : List V} (r : Rps T F ι ds vs) (hl : ks.length = ds.length) (nd : ks.Nodup) {TV : List (List Key × V)} (p : TV.Perm (ks.zip vs)) (pw : TV.Pairwise (fun p q => lexLt itemOrd (kc q.1) (kc p.1) = false)) :
    Rps T F ι (sortKD ks ds) (TV.map (·.2)) := by
  obtain ⟨z1, z2⟩ := zip3 (ks := ks) (ds := ds) (vs := vs) hl r.len.symm
  rw [← z1] at p
  obtain ⟨Z, pz, e⟩ := perm_map_inv p _ rfl
  have pd : (Z.map fun t : List Key × D × V => (t.1, t.2.1)).Perm (ks.zip ds) := by rw [← z2]; exact pz.map _
  have k0 : (ks.zip ds).map (·.1) = ks := by
    rw [List.map_fst_zip (by omega)]
  have e2 : (ks.zip ds).mergeSort kle = Z.map fun t : List Key × D × V => (t.1, t.2.1) := by
    refine sort_one ((List.mergeSort_perm _ _).trans pd.symm) ?_ (List.pairwise_mergeSort kle_trans kle_total _) ?_
    · have : (((ks.zip ds).mergeSort kle).map (·.1)).Perm ks := by
        have := (List.mergeSort_perm (ks.zip ds) kle).map (·.1)
        rw [k0] at this
        exact this
      exact this.nodup_iff.mpr nd
    · rw [e, List.pairwise_map] at pw
      rw [List.pairwise_map]
      refine pw.imp fun {a b} h => ?_
      unfold kle
      rw [Bool.not_eq_true']
      exact h
  unfold sortKD
  rw [e2, e, List.map_map, List.map_map]
  refine rps_map fun t ht => ?_
  have hm := pz.mem_iff.mp ht
  obtain ⟨i, hi⟩ := List.mem_iff_getElem?.mp hm
  obtain ⟨_, h2⟩ := List.getElem?_zip_eq_some.mp hi
  obtain ⟨h3, h4⟩ := List.getElem?_zip_eq_some.mp h2
  exact rps_ix r h3 h4
end Mp
/-! # MpKey7 -/
namespace Mp
open PySem PySem.Spec PyProof.Rows PyProof.Rows.G L2 LamX
section
variable {T : Tb} {X : Cx}
theorem keyD_kD' : ∀ k : Key, keyD (kD k) = some k
  | .inl i => rfl
  | .inr x => by
    show some (Sum.inr (S x.cps.toList) : Key) = _
    have : S x.cps.toList = x := by
      unfold S
      cases x
      simp
    rw [this]
theorem keysT_kD' : ∀ k : List Key, keysK (k.map kD) = some k
  | [] => rfl
  | x :: k => by
    rw [List.map_cons]
    unfold keysK
    rw [keyD_kD', keysT_kD' k]
theorem keyT_kDs' {k : List Key} : keyK (kDs k) = some k := keysT_kD' k
theorem keysL_len {gb : DE} {n : Nat} : ∀ {ds : List D} {s s2 : Sto} {ks : List (List Key)}, keysL gb n ds s = some (ks, s2) → ks.length = ds.length
  | [], s, s2, ks, h => by cases h; rfl
  | d :: ds, s, s2, ks, h => by
    unfold keysL at h
    split at h
    · split at h
      · rename_i e3
        cases h
        rw [List.length_cons, List.length_cons, keysL_len e3]
      · cases h
    · cases h
def keyTb (T : Tb) (n : Nat) (gb : DE) (c' : Addr) (q : Str) : V → Hp → VK → Prop := fun v H Q => ∃ P ι F st d, RelH T P ι F st H ∧ Rp T F ι d v ∧ F c' = some (CodeO c' q) ∧ Post T P (Rp T) Q (fun _ _ => False) F ι (gb (some d :: List.replicate (n - 1) none) st)
theorem keyLp_of {n : Nat} {gb : DE} {c' : Addr} {q : Str} {P : Hp} {Q : List Addr → Hp → Prop} : ∀ (ds : List D) (vs : List V) (acc : List Addr) (accK ks : List (List Key)) (F : Hp) (ι : List Addr) (s s2 : Sto) (H : Hp), RelH T P ι F s H → Rps T F ι ds vs → F c' = some (CodeO c' q) →
    Rps T F ι (accK.map kDs) (acc.map V.ref) → keysL gb n ds s = some (ks, s2) → (∀ (acc' : List Addr) (F' : Hp) (ι' : List Addr) (H' : Hp), Grow F ι F' ι' → RelH T P ι' F' s2 H' → Rps T F' ι' ((accK ++ ks).map kDs) (acc'.map V.ref) → Q acc' H') → KeyLp (keyTb T n gb c' q) vs acc H Q
  | [], vs, acc, accK, ks, F, ι, s, s2, H, R, r, hc, ra, hk, fin => by
    unfold Rps at r
    subst r
    cases hk
    unfold KeyLp
    exact fin acc F ι H (Grow.refl _ _) R (by rw [List.append_nil]; exact ra)
  | d :: ds, vs, acc, accK, ks, F, ι, s, s2, H, R, r, hc, ra, hk, fin => by
    unfold Rps at r
    obtain ⟨v, us, rfl, r1, r2⟩ := r
    unfold keysL at hk
    split at hk
    · rename_i xs s1 e1
      split at hk
      · rename_i k ks' s3 e2 e3
        cases hk
        unfold KeyLp
        refine ⟨P, ι, F, s, d, R, r1, hc, ?_⟩
        rw [e1]
        intro v' H' ι' F' g R' r'
        obtain ⟨b, rfl, hb⟩ := key_ofK (k := k) r' (show keyK (.tup xs) = some k from e2)
        refine ⟨b, rfl, ?_⟩
        refine keyLp_of ds us (acc ++ [b]) (accK ++ [k]) ks' F' ι' s1 _ H' R' (r2.mono g) (g.1 _ _ hc) ?_ e3 fun acc' F'' ι'' H'' g' R'' ra' => fin acc' F'' ι'' H'' (g.trans g') R'' (by rw [List.append_assoc] at ra'; exact ra')
        rw [List.map_append, List.map_append]
        exact (ra.mono g).app (.cons (by
          have := kDs_ofK (d := .tup xs) (k := k) e2
          rw [← this]
          exact r') .nil)
      · cases hk
    · cases hk
theorem d_sortK {e body : Expr} {params : Arguments} {scope : Scope} {p lpos kpos pos : Pos} {fa : DA} {gb : DE} {c : Addr} {k n : Nat} {a : Str} {N : List Str} (kt : Nat) (shape : Nat → Bool) (he : PDa T X [e] fa) (TB : TabB X.base X.mg c (T.tb kt).1) (hq : (T.tb kt).2 = X.env.qual ++ "<lambda>") (hcode : X.env.code = .ref c) (hr : Room (k + 4) X.A)
    (S : FnScope N [a] scope) (hn : N.length = n) (hfr0 : ∀ y ∈ scope.names, y.2 ≠ .free)
    (hbody : ∀ (A : Around) (outer : List PySem.Env) (s : Shared) (H : Hp) (f c' : Addr), Room k (A.deeper (envOfC (X.env.qual ++ "<lambda>") scope s.heap.objs.size f (.ref c'))) → PDe T (cxOf C8.CX0 X.prog X.w X.K X.mg X.base N (X.env.qual ++ "<lambda>") scope f (.ref c') A outer s H C8.E0) body gb)
    (hm : X.mg "sorted" = none) (hdef : defaultsOf params X.env = ([], []) := by rfl)
    (hbind : ∀ (q : Str) (cl : List (Str × Addr)) (pm cv ctv u : Value), bindArgs (PySem.W.kla_fn "<lambda>" q params body scope cl pm cv ctv) ⟨[u], []⟩ = pure [(a, u)] := by intros; rfl) (hcl : ∀ cells : List (Str × Addr), cloFrom cells scope.names [] = [] := by intros; rfl)
    (hg : Gl X "sorted" := by rfl) (hst : frs X.stack = X.env.locals :: frs X.outer := by rfl) (hK : X.K = T.K := by rfl)
    (he0 : backTo pos (starEach [e] X.env) = (false, eval e X.env) :: backTo pos (starEach [] X.env) := by rfl) (hpl : (backTo pos (starEach [e] X.env)).any (·.1) = false := by rfl) :
    PDe T X (.Call (.Name "sorted" p) [e] [⟨some (Str.ofString "key"), .Lambda params body scope lpos, kpos⟩] pos) (dSortK kt n shape fa gb) := by
  intro pn xe W tk
  obtain ⟨t1, p1, d1⟩ := he pn xe W tk
  refine ⟨fun σ H Q => ∃ P ι F δ st, RelH T P ι F st H ∧ REnv T F ι δ σ ∧ Post T P (Rp T) Q (fun c H' => W (.ref (T.ca c)) none σ H') F ι (dSortK kt n shape fa gb δ st), ⟨fun pins s σ H Q I h => ?_⟩, fun σ H P ι F δ st Q R E post => ⟨P, ι, F, δ, st, R, E, post⟩⟩
  obtain ⟨P, ι, F, δ, st, R, E, post⟩ := h
  refine wpAny_Call_Name_kw (ld_blt (X := X.tr pn xe) I hg hm (show bootBuiltins "sorted" = some (.builtin "sorted") from rfl) ?_ (by decide) (by decide))
  refine PyProof.Rows.callWith_kw (thn (p1.run pos pins s σ H (fun vs H1 => ∃ xs ι1 F1 s1, RelH T P ι1 F1 s1 H1 ∧ REnv T F1 ι1 δ σ ∧ RpsN T 1 F1 ι1 xs vs ∧ Post T P (Rp T) Q (fun c H' => W (.ref (T.ca c)) none σ H') F1 ι1 (match xs with
    | [x] => oSortK kt n shape gb x s1
    | _ => .stuck)) I (den_then d1 R E post fun xs vs H1 ι1 F1 s1 g1 R1 E1 r1 post1 => ⟨xs, ι1, F1, s1, R1, E1, r1, post1⟩)) fun us s1 ⟨vs, H1, I1, rv, q1⟩ => ?_) he0 hpl rfl rfl
  obtain ⟨xs, ι1, F1, st1, R1, E1, r1, post1⟩ := q1
  split at post1
  rotate_left
  · exact post1.elim
  rename_i x
  have rl := r1.1
  unfold Rps at rl
  obtain ⟨v, vs', rfl, rx, rn⟩ := rl
  unfold Rps at rn
  subst rn
  unfold oSortK at post1
  split at post1
  rotate_left
  · exact post1.elim
  rename_i q ds hc1 hds
  split at post1
  rotate_left
  · exact post1.elim
  rename_i hqk
  obtain ⟨rfl, hdl⟩ := hqk
  split at post1
  rotate_left
  · exact post1.elim
  rename_i ks s2 hks
  split at post1
  rotate_left
  · exact post1.elim
  rename_i hall
  obtain ⟨hsh, hnd⟩ := hall
  -- the lambda
  have hlen : q < st1.length := (List.getElem?_eq_some_iff.mp hc1).1
  obtain ⟨ap, hi⟩ : ∃ ap, ι1[q]? = some ap := ⟨_, List.getElem?_eq_getElem (by rw [R1.len]; exact hlen)⟩
  obtain ⟨hF, hap, ps, hP, ht, ha⟩ := R1.cell q _ ap hc1 hi
  subst hap
  rw [hq] at ha
  show wpAny _ _ (evalAll ((do let v ← eval (.Lambda params body scope lpos) X.env; standAt pos; pure v) :: [])) _ _ s1
  refine wpAny_evalAll_cons (wpAny_bind (lam_mk (X := X.tr pn xe) I1 TB hcode hP ht (fun p cv e => let ⟨c', e1, e2⟩ := ha p cv e; ⟨c', e1, R1.sub _ _ e2⟩) hdef (fun y hy e => absurd e (hfr0 y hy)) fun fa' c' pm' ctv H2 s2' I2 hH hf hfn hfr hco => wpAny_bind (wpAny_standAt (wpAny_pure ?_))))
  refine wpAny_evalAll_nil ?_
  obtain ⟨F2, g2, R2, hF2⟩ : ∃ F2, Grow F1 ι1 F2 ι1 ∧ RelH T P ι1 F2 st1 H2 ∧ F2 c' = some (CodeO c' (X.env.qual ++ "<lambda>")) := by
    rcases hH with ⟨e, q0, hq'⟩ | ⟨more, nC, e, ht', ha'⟩
    · obtain ⟨c2, e1, e2⟩ := ha q0 _ hq'
      cases e1
      exact ⟨F1, Grow.refl _ _, by rw [e]; exact R1, e2⟩
    · have nPc : c' ≠ (T.tb q).1 := fun z => by
        rw [z, hP] at nC
        cases nC
      have R2 := R1.new nC (CodeO c' (X.env.qual ++ "<lambda>"))
      have g2 : Grow F1 ι1 (upd F1 c' (CodeO c' (X.env.qual ++ "<lambda>"))) ι1 := grow_new (R1.freeF nC) _
      have cell : CellAt T ι1 (upd F1 c' (CodeO c' (X.env.qual ++ "<lambda>"))) (upd (upd H1 c' (CodeO c' (X.env.qual ++ "<lambda>"))) (T.tb q).1 (.tbl (ps ++ more))) (T.tb q).1 (.tbl q) := by
        refine ⟨by rw [upd_ne (Ne.symm nPc)]; exact hF, rfl, _, upd_same, ht', fun p cv z => ?_⟩
        rw [hq]
        rcases ha' p cv z with z | z
        · obtain ⟨c2, e1, e2⟩ := ha p cv z
          exact ⟨c2, e1, g2.1 _ _ e2⟩
        · exact ⟨c', z, upd_same⟩
      have R3 := R2.setC hc1 rfl hi cell
      have es : st1.set q (.tbl q) = st1 := by
        apply List.ext_getElem?
        intro i
        by_cases c : q = i
        · subst c
          rw [List.getElem?_set_self hlen, hc1]
        · rw [List.getElem?_set_ne c]
      have eH : upd (upd H1 c' (CodeO c' (X.env.qual ++ "<lambda>"))) (T.tb q).1 (.tbl (ps ++ more)) = H2 := by
        rw [e]
        funext b
        unfold upd
        by_cases c1 : b = c'
        · subst c1
          rw [if_neg nPc, if_pos rfl, if_pos rfl]
        · rw [if_neg c1, if_neg c1]
      rw [es, eH] at R3
      exact ⟨_, g2, R3, upd_same⟩
  obtain ⟨la, lvs, rfl, hL, hLr⟩ := lq_of R2 (rx.mono g2) hds
  rw [← hK] at hL
  obtain rfl := Vals.ref1 rv
  show wpAny (model X.prog X.w) X.A (call (.builtin "sorted") [.ref la] [(Str.ofString "key", .ref fa')]) (EP (X.tr pn xe) pins σ Q) xe s2'
  have hloc : fa' ≠ X.env.locals ∧ fa' ∉ frs X.outer := by
    have hfr' : fa' ∉ X.env.locals :: frs X.outer := by
      rw [← hst]
      exact hfr
    exact ⟨fun z => hfr' (by rw [z]; exact .head _), fun z => hfr' (.tail _ z)⟩
  have I3 : Inv (X.tr pn xe) ((fa', _) :: pins) σ H2 s2' := I2.pins_of fun p hp => by
    rcases List.mem_cons.mp hp with rfl | hp
    · exact ⟨hf, hfn, hloc.1, hloc.2, fun v z => nomatch z⟩
    · exact I2.pin p (List.mem_append_right _ hp)
  refine sk_sorted (X := X.tr pn xe) (shape := shape) (tb := keyTb T n gb c' (X.env.qual ++ "<lambda>")) I3 hL (by rw [← hLr.len]; exact hdl) (fun v u pl s3 H3 Q3 I4 hm3 rv3 ht3 => ?_) (keyLp_of ds lvs [] [] ks F2 ι1 st1 s2 H2 R2 hLr hF2 .nil hks fun acc' F' ι' H' g R' ra' => ?_)
  · obtain ⟨P3, ι3, F3, st3, d3, R3, rd3, hc3, post3⟩ := ht3
    have pf := I4.pin _ (List.mem_append_right _ hm3)
    have of := pf.1
    rw [hcl] at of
    have e0 := I4.env0
    have e0' : Env0 X.prog X.w X.K X.mg X.base X.A.in1.in1 X.stack s3 H3 := ⟨e0.frames, e0.mod, e0.bs, e0.bsz, e0.funs, e0.frf, e0.hok, e0.bare⟩
    have rc := lam1_run (CX := C8.CX0) (E := C8.E0) (k := k) (us := [u]) (vs := [v]) (Q := Q3) S of (R3.sub _ _ hc3) ((hr.in1.in1).mono (by omega)) e0' (hbind _ _ _ _ _ _) (.cons rv3 .nil) rfl fun hr2 => by
      obtain ⟨t, pt, dt⟩ := hbody X.A.in1.in1 X.stack s3 H3 fa' c' hr2 [] _ _ LamX.takes0
      refine ⟨t, pt, ?_⟩
      have r0 : Rps T F3 ι3 [d3] [v] := .cons rd3 .nil
      have E3 : REnv T F3 ι3 (some d3 :: List.replicate (N.length - 1) none) (L2.start N [v]) := start_env (N := N) r0 (n := 1) rfl
      rw [hn] at E3
      exact dt _ _ _ _ _ _ _ _ R3 E3 post3
    refine wpAny_call (codeAny_mono rc fun r s4 hq4 => ?_)
    cases r with
    | error e => exact (show False from hq4).elim
    | ok fl =>
      cases fl with
      | ret u => exact I4.after hq4
      | next => exact False.elim hq4
      | brk => exact False.elim hq4
      | cont => exact False.elim hq4
  · rw [List.nil_append] at ra'
    have hkl : ks.length = acc'.length := by
      have := ra'.len
      rw [List.length_map, List.length_map] at this
      exact this
    refine ⟨ks, hkl, fun i b k' h1 h2 => ?_, fun k' hk' => ?_, fun TV a' hp hpw ha' => ?_⟩
    · have rr := rps_ix ra' (i := i) (d := kDs k') (v := V.ref b) (by rw [List.getElem?_map, h2]; rfl) (by rw [List.getElem?_map, h1]; rfl)
      obtain ⟨b', e1, e2⟩ := key_ofK (k := k') rr keyT_kDs'
      cases e1
      exact .inl (.inl (R'.sub _ _ e2))
    · have := List.all_eq_true.mp hsh k' hk'
      rw [Bool.and_eq_true] at this
      exact ⟨this.1, fun z => by rw [z] at this; exact absurd this.2 (by decide)⟩
    · have lds : ks.length = ds.length := keysL_len hks
      exact post_loc (post1.mono (g2.trans g)) R' ha' ⟨R'.freeF ha', _, upd_same, (sorted_rps (hLr.mono g) lds hnd hp hpw).mono (grow_app _ _ _)⟩
end
end Mp
/-! # MpLcC -/
namespace Mp
open PySem PySem.Spec PyProof.Rows L2
section
variable {T : Tb} {X : Cx}
/-! ## a comprehension told as a cell -/
def toC (r : Res D) : Res D := r.bind fun x s => match x with
  | .lst xs => .ok (.loc s.length) (s ++ [.lst xs])
  | _ => .stuck
@[simp] theorem toC_lst {xs : List D} {s : Sto} : toC (.ok (.lst xs) s) = .ok (.loc s.length) (s ++ [.lst xs]) := rfl
def dLcC (it : DIt) (t : DTg) (c : DT) (e : DE) (vs : List Nat) : DE := fun δ s => toC (dLc it t c e vs δ s)
@[simp] theorem dLcC_eq {it : DIt} {t : DTg} {c : DT} {e : DE} {vs : List Nat} {δ : Env} {s : Sto} : dLcC it t c e vs δ s = toC (dLc it t c e vs δ s) := rfl
/-- what was held is a cell from now on -/
theorem RelH.own {P : Hp} {ι : List Addr} {F : Hp} {s : Sto} {H : Hp} {L : Addr} {vs : List V} {xs : List D} (R : RelH T (upd P L (.lst vs)) ι F s H) (hP : P L = none) (r : Rps T F ι xs vs) : RelH T P (ι ++ [L]) F (s ++ [.lst xs]) H := by
  have R1 : RelH T (upd P L (.lst vs)) (ι ++ [L]) F (s ++ [.dead]) H := by
    refine ⟨R.sub, R.pro, R.dis, by rw [List.length_append, List.length_append, R.len]; rfl, fun n c a hs hi => ?_, fun n c a hs hl hi => ?_, fun n m c c' a hs hs' hl hl' hi hi' => ?_⟩
    · by_cases hn : n < s.length
      · rw [List.getElem?_append_left hn] at hs
        rw [List.getElem?_append_left (by rw [R.len]; exact hn)] at hi
        have := R.cell n c a hs hi
        cases c with
        | dead => trivial
        | _ => exact this.grow (grow_app _ _ _) (fun _ => rfl) (fun _ => rfl)
      · rw [List.getElem?_append_right (by omega)] at hs
        have e : n - s.length = 0 := by
          cases q : n - s.length with
          | zero => rfl
          | succ k => rw [q] at hs; simp at hs
        rw [e] at hs
        cases hs
        trivial
    · by_cases hn : n < s.length
      · rw [List.getElem?_append_left hn] at hs
        rw [List.getElem?_append_left (by rw [R.len]; exact hn)] at hi
        exact R.npr n c a hs hl hi
      · rw [List.getElem?_append_right (by omega)] at hs
        have e : n - s.length = 0 := by
          cases q : n - s.length with
          | zero => rfl
          | succ k => rw [q] at hs; simp at hs
        rw [e] at hs
        cases hs
        cases hl
    · have key : ∀ {k : Nat} {c : Cell}, (s ++ [Cell.dead])[k]? = some c → c.live = true → k < s.length ∧ s[k]? = some c := by
        intro k c h h2
        by_cases hn : k < s.length
        · rw [List.getElem?_append_left hn] at h
          exact ⟨hn, h⟩
        · rw [List.getElem?_append_right (by omega)] at h
          have e : k - s.length = 0 := by
            cases q : k - s.length with
            | zero => rfl
            | succ k => rw [q] at h; simp at h
          rw [e] at h
          cases h
          cases h2
      obtain ⟨a1, a2⟩ := key hs hl
      obtain ⟨b1, b2⟩ := key hs' hl'
      rw [List.getElem?_append_left (by rw [R.len]; exact a1)] at hi
      rw [List.getElem?_append_left (by rw [R.len]; exact b1)] at hi'
      exact R.nod n m c c' a a2 b2 hl hl' hi hi'
  have := bk_ok (ι0 := ι ++ [L]) (F0 := F) (n := s.length) (xs := xs) (s' := s ++ [.lst xs]) (Grow.refl _ _) R1 hP (by rw [← R.len]; simp) (r.mono (grow_app _ _ _)) (by
    unfold bkS
    simp)
  exact this
theorem den_lcC {W : WX} {wi : TI} {it : DIt} {ws vs : List Nat} {t : DTg} {c : DT} {e : DE} (hi : DenI T W wi it) (hs : ∀ i ∈ ws, i ∈ vs) :
    DenG T (Rp T) W (tLc wi (canT T ws t) (canE T eqR W0 c) (canE T (Rp T) W0 e) vs) (dLcC it t c e vs) := fun σ H P ι F δ s Q R E post => by
  show wi σ H _
  have post : Post T P (Rp T) Q (fun c H' => W (.ref (T.ca c)) none σ H') F ι ((it δ s).bind fun ds s1 => toC (lcL t c e (wipeE δ vs) ds [] s1)) := by
    unfold dLcC dLc toC at post
    cases q : it δ s with
    | ok a b => rw [q] at post; exact post
    | exc a b => rw [q] at post; exact post
    | stuck => rw [q] at post; exact post
  refine den_then hi R E post fun ds J H1 ι1 F1 s1 g1 R1 E1 w post1 => fun L hL => ?_
  have hPL : P L = none := R1.freeP hL
  refine lc_it w (fun i H' => ∃ ι' F' s' acc vacc, Grow F1 ι1 F' ι' ∧ RelH T (upd P L (.lst vacc)) ι' F' s' H' ∧ Rps T F' ι' acc vacc ∧
      Post T P (Rp T) Q (fun c H' => W (.ref (T.ca c)) none σ H') F' ι' (toC (lcL t c e (wipeE δ vs) (ds.drop i) acc s')))
    ⟨ι1, F1, s1, [], [], Grow.refl _ _, R1.newP hL _, .nil, by simpa using post1⟩ ?_ ?_ ?_
  · rintro i H' _ ⟨ι', F', s', acc, vacc, g', R', _, _⟩
    exact fun a o h => R'.sub _ _ (g'.1 _ _ h)
  · rintro i x H' H2 hi' ⟨ι', F', s', acc, vacc, g', R', ra, post'⟩ ⟨d, hd, y⟩
    obtain ⟨F2, g2, R2, r2⟩ := item_ok g' R' y
    rw [drop_get hd] at post'
    unfold lcL at post'
    have Ew : REnv T F2 ι' (wipeE δ vs) (L2.wipe σ vs) := ((E1.mono g').mono g2).wipe vs
    cases q : t d (wipeE δ vs) with
    | none => rw [q] at post'; exact post'.elim
    | some δ1 =>
      rw [q] at post'
      dsimp only at post'
      refine ⟨_, ι', F2, _, δ1, s', d, R2, Ew, r2, q, fun σ2 E2 o2 => ⟨o2.wipe hs |>.trans ?_, ?_⟩⟩
      · refine List.ext_getElem? fun j => ?_
        rw [wipe_at, wipe_at, wipe_length]
        by_cases c : j ∈ vs ∧ j < σ.length
        · rw [if_pos c, if_pos c]
        · rw [if_neg c, if_neg c]
      · refine ⟨_, ι', F2, δ1, s', R2, E2, ?_⟩
        cases qc : c δ1 s' with
        | stuck => rw [qc] at post'; exact post'.elim
        | exc k s2 => rw [qc] at post'; exact post'.elim
        | ok b s2 =>
          rw [qc] at post'
          intro b' H3 ι3 F3 g3 R3 eb
          cases eb
          cases b with
          | false =>
            rw [if_neg Bool.false_ne_true]
            exact ⟨ι3, F3, s2, acc, vacc, (g'.trans g2).trans g3, R3, ra.mono (g2.trans g3), post'.mono (g2.trans g3)⟩
          | true =>
            rw [if_pos rfl]
            refine ⟨_, ι3, F3, δ1, s2, R3, E2.mono g3, ?_⟩
            dsimp only at post'
            cases qe : e δ1 s2 with
            | stuck => rw [qe] at post'; exact post'.elim
            | exc k s3 => rw [qe] at post'; exact post'.elim
            | ok z s3 =>
              rw [qe] at post'
              intro v H4 ι4 F4 g4 R4 rv
              dsimp only at post'
              have ra' := ra.mono ((g2.trans g3).trans g4)
              split at post'
              · rename_i hl
                refine ⟨vacc, R4.pro _ _ upd_same, by rw [← ra.len]; exact lim_lt (Nat.le_of_lt hl), ι4, F4, s3, acc ++ [z], vacc ++ [v], ((g'.trans g2).trans g3).trans g4, ?_, ra'.app (.cons rv .nil), post'.mono ((g2.trans g3).trans g4)⟩
                have := R4.setP (p := L) upd_same (.lst (vacc ++ [v]))
                rw [upd_upd] at this
                exact this
              · exact post'.elim
  · rintro H' ⟨ι', F', s', acc, vacc, g', R', ra, post'⟩
    rw [List.drop_length] at post'
    refine post' (.ref L) H' (ι' ++ [L]) F' (grow_app _ _ _) (R'.own hPL ra) ?_
    unfold Rp
    exact ⟨L, by rw [← R'.len]; simp, rfl⟩
theorem d_lcC {elt tg iter : Expr} {ifs : List Expr} {scope : Scope} {own : List (Str × Nat)} {pos : Pos} {it : DIt} {ws : List Nat} {t : DTg} {c : DT} {e : DE} (hN : X.N.Nodup) (hi : PDi T X tg iter it) (ok : BlkOk X.N X.env.scope scope own)
    (hg : ∀ (s : Shared) (H : Hp) (C : Addr) (cl : List (Str × Addr)) (fp : List Addr), PDg T (Blk X scope s H C cl fp) tg ws t) (ht : ∀ (s : Shared) (H : Hp) (C : Addr) (cl : List (Str × Addr)) (fp : List Addr), PDts T (Blk X scope s H C cl fp) ifs c)
    (he : ∀ (s : Shared) (H : Hp) (C : Addr) (cl : List (Str × Addr)) (fp : List Addr), PDe T (Blk X scope s H C cl fp) elt e) (hs : ∀ i ∈ ws, i ∈ own.map (·.2) := by decide) (hf : ∀ x, foldedSetIterable iter X.env x = pure x := by intro _; rfl) (hc : X.calm = true := by rfl) :
    PDe T X (.ListComp elt [⟨tg, iter, ifs, 0⟩] scope pos) (dLcC it t c e (own.map (·.2))) := fun pn xe W tk => by
  obtain ⟨wi, p1, d1⟩ := hi pn xe W tk
  refine ⟨_, pe_lc (X := X.tr pn xe) (own := own) hc hN p1 ok (g := canT T ws t) (tt := canE T eqR W0 c) (te := canE T (Rp T) W0 e) (fun s H C cl fp => ?_) (fun s H C cl fp => ?_) (fun s H C cl fp => ?_) hf, den_lcC d1 hs⟩
  · obtain ⟨g, p, d⟩ := hg s H C cl fp [] (fun _ _ => False)
    exact PG.weak p fun v σ H Q q => d.can q
  · obtain ⟨g, p, d⟩ := ht s H C cl fp
    exact PTs.weak p fun σ H Q q => d.can q
  · obtain ⟨g, p, d⟩ := he s H C cl fp [] (fun _ _ => False) W0 takes0
    exact PE.weak p fun σ H Q q => d.can q
/-! ## ==, != of what holds lists that are cells -/
def mapO {α β : Type} (f : α → Option β) : List α → Option (List β)
  | [] => some []
  | x :: xs => match f x, mapO f xs with
    | some p, some ps => some (p :: ps)
    | _, _ => none
/-- as data, the cells looked up -/
def toPd (s : Sto) : Nat → D → Option PyData
  | 0, _ => none
  | k + 1, .loc n => match s[n]? with
    | some (.lst xs) => (mapO (toPd s k) xs).map .list
    | _ => none
  | k + 1, .lst xs => (mapO (toPd s k) xs).map .list
  | k + 1, .tup xs => (mapO (toPd s k) xs).map .tuple
  | _ + 1, d => toP d
theorem dpO_of {F H : Hp} {ι : List Addr} {f : D → Option PyData} (hf : ∀ {d : D} {v : V} {p : PyData}, Rp T F ι d v → f d = some p → Dp T.K H v p) : ∀ {ds : List D} {vs : List V} {ps : List PyData}, Rps T F ι ds vs → mapO f ds = some ps → DpAll T.K H vs ps
  | [], vs, ps, r, e => by
    unfold Rps at r
    subst r
    unfold mapO at e
    cases e
    exact .nil
  | x :: xs, vs, ps, r, e => by
    unfold Rps at r
    obtain ⟨v, us, rfl, r1, r2⟩ := r
    unfold mapO at e
    cases h1 : f x with
    | none => rw [h1] at e; cases e
    | some p =>
      cases h2 : mapO f xs with
      | none => rw [h1, h2] at e; cases e
      | some qs => rw [h1, h2] at e; cases e; exact .cons (hf r1 h1) (dpO_of hf r2 h2)
theorem dpd_of {P : Hp} {ι : List Addr} {F : Hp} {s : Sto} {H : Hp} (R : RelH T P ι F s H) : ∀ (k : Nat) {d : D} {v : V} {p : PyData}, Rp T F ι d v → toPd s k d = some p → Dp T.K H v p
  | 0, d, v, p, r, e => by unfold toPd at e; cases e
  | k + 1, d, v, p, r, e => by
    unfold toPd at e
    split at e
    · contradiction
    · rename_i n heq
      cases heq
      split at e
      · rename_i xs h
        have h' : lsOf s (.loc n) = some xs := by rw [lsOf_loc, h]
        obtain ⟨a, vs, rfl, q, r⟩ := ls_of R r h'
        cases h2 : mapO (toPd s k) xs with
        | none => rw [h2] at e; cases e
        | some ps => rw [h2] at e; cases e; exact .lst (SqL.of q) (dpO_of (fun r e => dpd_of R k r e) r h2)
      · cases e
    · rename_i xs heq
      cases heq
      unfold Rp at r
      obtain ⟨a, vs, rfl, q, r⟩ := r
      cases h : mapO (toPd s k) xs with
      | none => rw [h] at e; cases e
      | some ps => rw [h] at e; cases e; exact .lst (SqL.of (R.sub _ _ q)) (dpO_of (fun r e => dpd_of R k r e) r h)
    · rename_i xs heq
      cases heq
      unfold Rp at r
      obtain ⟨a, vs, rfl, q, r⟩ := r
      cases h : mapO (toPd s k) xs with
      | none => rw [h] at e; cases e
      | some ps => rw [h] at e; cases e; exact .tup (SqT.of (R.sub _ _ q)) (dpO_of (fun r e => dpd_of R k r e) r h)
    · exact dp_of R r e
def oEqC (neg : Bool) : DOp := fun x y s => match toPd s 12 x, toPd s 12 y with
  | some p, some q => if (SeqAt.shaped p && SeqAt.shaped q) = true then .ok (.bl (neg != PyData.eqv p q)) s else .stuck
  | _, _ => .stuck
theorem do_eqC : DenOp T (rEqA T.K) (oEqC false) := by
  intro x y dx dy H P ι F s Q E R rx ry post
  unfold oEqC at post
  split at post
  · rename_i p q h1 h2
    split at post
    · rename_i hs
      simp only [Bool.and_eq_true] at hs
      exact .inr ⟨p, q, dpd_of R _ rx h1, dpd_of R _ ry h2, hs.1, hs.2, post.here R (by unfold Rp; rw [b1])⟩
    · exact post.elim
  · exact post.elim
theorem do_neC : DenOp T (rNeA T.K) (oEqC true) := by
  intro x y dx dy H P ι F s Q E R rx ry post
  unfold oEqC at post
  split at post
  · rename_i p q h1 h2
    split at post
    · rename_i hs
      simp only [Bool.and_eq_true] at hs
      exact .inr ⟨p, q, dpd_of R _ rx h1, dpd_of R _ ry h2, hs.1, hs.2, post.here R (by unfold Rp; rw [b2])⟩
    · exact post.elim
  · exact post.elim
end
end Mp
/-! # MpSrt -/
namespace Mp
open PySem PySem.Spec PyProof.Rows L2 PySem.W
section
variable {T : Tb} {X : Cx}
/-! ## sorted of a list of data -/
abbrev srtV (vs : List V) (ds : List PyData) : List V := ((vs.zip ds).mergeSort (dataLe false fun b : V × PyData => b.2)).map (·.1)
abbrev srtD (xs : List D) (ds : List PyData) : List D := ((xs.zip ds).mergeSort (dataLe false fun b : D × PyData => b.2)).map (·.1)
def rSortD (K : PySem.W.Frag) : List V → Hp → VK → Prop := fun xs H Q => ∃ (l : Addr) (vs : List V) (ds : List PyData), xs = [V.ref l] ∧ SqL K H l vs ∧ DpAll K H vs ds ∧ AllAlike ds ∧ Sortable ds ∧ vs.length ≤ 1000 ∧ (∀ d ∈ ds, d.depth ≤ 60) ∧
  ∀ p : Addr, H p = none → Q (.ref p) (upd H p (.lst (srtV vs ds)))
theorem dpAll_len {K : PySem.W.Frag} {H : Hp} : ∀ {vs : List V} {ds : List PyData}, DpAll K H vs ds → ds.length = vs.length
  | _, _, .nil => rfl
  | _, _, .cons _ r => by rw [List.length_cons, List.length_cons, dpAll_len r]
theorem each_dp {pins : List (Addr × Obj)} {σ : L2.St} {H : Hp} {s : Shared} (I : Inv X pins σ H s) : ∀ {vs : List V} {ds : List PyData} {us : List Value}, DpAll X.K H vs ds → Vals vs us → EachIs (fun (u : Value) (b : V × PyData) => RelV b.1 u) us (vs.zip ds) ∧ EachIs (fun (u : Value) (b : V × PyData) => ∃ as, Reads s.heap u b.2 as) us (vs.zip ds)
  | _, _, _, .nil, .nil => ⟨.nil, .nil⟩
  | _, _, _, .cons d ds, .cons r rs => by
    obtain ⟨e1, e2⟩ := each_dp I ds rs
    exact ⟨.cons r e1, .cons (Dp.reads I _ _ _ d r) e2⟩
theorem vals_each : ∀ {us : List Value} {bs : List (V × PyData)}, EachIs (fun (u : Value) (b : V × PyData) => RelV b.1 u) us bs → Vals (bs.map (·.1)) us
  | _, _, .nil => .nil
  | _, _, .cons r rs => .cons r (vals_each rs)
theorem snd_zip {α β : Type} : ∀ {a : List α} {b : List β}, b.length = a.length → (a.zip b).map (·.2) = b := fun {a b} h => List.map_snd_zip (by omega)
theorem cr_sortedD (hu : X.A.units + 64 < cLine) : CallR X (.builtin "sorted") (rSortD X.K) := by
  intro pins s σ H vs us Q I r h
  obtain ⟨a, xs, ds, rfl, hs, hd, hal, hso, hlen, hdp, q⟩ := h
  obtain ⟨its, rv, hl, _⟩ := I.list hs
  rw [Vals.ref1 r]
  obtain ⟨e1, e2⟩ := each_dp I hd rv
  have em : (xs.zip ds).map (fun b : V × PyData => b.2) = ds := snd_zip (dpAll_len hd)
  have hz : (xs.zip ds).length = xs.length := by rw [List.length_zip, dpAll_len hd, Nat.min_self]
  refine sorted_data (enc := fun b : V × PyData => b.2) hl.isList e1 e2 (by rw [em]; exact hal) (by rw [em]; exact hso) (by rw [hz, sizeLine_eq]; omega) (fun b hb => ?_) fun out ho eo => ?_
  · have : b.2 ∈ ds := by rw [← em]; exact List.mem_map.mpr ⟨b, hb, rfl⟩
    have := hdp _ this
    omega
  · obtain ⟨ep, he'⟩ := PyProof.Rows.sortedAll_at s.heap its (List.toArray out)
    have hl2 : (srtV xs ds).length ≤ sizeLine := by
      rw [List.length_map, List.length_mergeSort, hz, sizeLine_eq]; omega
    exact ⟨.ref _, upd H (s.heap.objs.size + 1) (.lst (srtV xs ds)), I.laid (t' := s.toks) (fun _ _ => PyProof.Rows.sortedAll_old) (Nat.le_succ _) ⟨hl2, out, ep, vals_each eo, he'⟩, rfl, q _ (I.hok.fresh (Nat.le_succ _))⟩
/-- one of the places of all -/
def alikeAllB (ps : List PyData) : Bool := ps.all fun p => ps.all fun q => alike p q
def tupsB (ps : List PyData) : Bool := ps.all fun p => match p with
  | .tuple (_ :: _) => decide (p.depth ≤ 60)
  | _ => false
def bSortD : DB := fun ds s => match ds with
  | [x] => match lqOf s x with
    | some xs => match mapO (toPd s 12) xs with
      | some ps => if (alikeAllB ps && tupsB ps) = true ∧ xs.length ≤ 1000 then .ok (.lst (srtD xs ps)) s else .stuck
      | none => .stuck
    | none => .stuck
  | _ => .stuck
theorem mapO_len {α β : Type} {f : α → Option β} : ∀ {xs : List α} {ps : List β}, mapO f xs = some ps → ps.length = xs.length
  | [], ps, h => by unfold mapO at h; cases h; rfl
  | x :: xs, ps, h => by
    unfold mapO at h
    split at h
    · rename_i h1 h2
      cases h
      rw [List.length_cons, List.length_cons, mapO_len h2]
    · cases h
theorem srt_rps {F : Hp} {ι : List Addr} {xs : List D} {vs : List V} {ps : List PyData} (r : Rps T F ι xs vs) (hl : ps.length = xs.length) : Rps T F ι (srtD xs ps) (srtV vs ps) := by
  have hv : vs.length = xs.length := r.len.symm
  let Z := xs.zip (vs.zip ps)
  have e1 : Z.map (fun t : D × V × PyData => (t.1, t.2.2)) = xs.zip ps := by
    apply List.ext_getElem?
    intro i
    simp only [Z, List.getElem?_map, List.getElem?_zip_eq_some, List.zip]
    rw [List.getElem?_zipWith, List.getElem?_zipWith, List.getElem?_zipWith]
    by_cases hi : i < xs.length
    · rw [List.getElem?_eq_getElem hi, List.getElem?_eq_getElem (show i < vs.length by omega), List.getElem?_eq_getElem (show i < ps.length by omega)]
      rfl
    · rw [List.getElem?_eq_none (by omega : xs.length ≤ i)]
      rfl
  have e2 : Z.map (fun t : D × V × PyData => (t.2.1, t.2.2)) = vs.zip ps := by
    apply List.ext_getElem?
    intro i
    simp only [Z, List.getElem?_map, List.getElem?_zip_eq_some, List.zip]
    rw [List.getElem?_zipWith, List.getElem?_zipWith]
    by_cases hi : i < xs.length
    · rw [List.getElem?_eq_getElem hi, List.getElem?_eq_getElem (show i < vs.length by omega), List.getElem?_eq_getElem (show i < ps.length by omega)]
      rfl
    · rw [List.getElem?_eq_none (by omega : xs.length ≤ i), List.getElem?_eq_none (by omega : vs.length ≤ i)]
      rfl
  unfold srtD srtV
  rw [← e1, ← e2]
  rw [← List.map_mergeSort (r := dataLe false fun t : D × V × PyData => t.2.2) (f := fun t : D × V × PyData => (t.1, t.2.2)) (fun a _ b _ => rfl), ← List.map_mergeSort (r := dataLe false fun t : D × V × PyData => t.2.2) (f := fun t : D × V × PyData => (t.2.1, t.2.2)) (fun a _ b _ => rfl)]
  rw [List.map_map, List.map_map]
  refine rps_map fun t ht => ?_
  have hm := (List.mergeSort_perm Z _).mem_iff.mp ht
  obtain ⟨i, hi⟩ := List.mem_iff_getElem?.mp hm
  obtain ⟨h1, h2⟩ := List.getElem?_zip_eq_some.mp hi
  obtain ⟨h3, h4⟩ := List.getElem?_zip_eq_some.mp h2
  exact rps_ix r h1 h3
theorem db_sortD : DenB T (rSortD T.K) bSortD := by
  intro ds vs H P ι F s Q E R r post
  unfold bSortD at post
  split at post
  · obtain ⟨v, rfl, h1⟩ := rps1 r
    split at post
    · rename_i xs hx
      split at post
      · rename_i ps hp
        split at post
        · rename_i hc
          obtain ⟨hc, hn⟩ := hc
          rw [Bool.and_eq_true] at hc
          obtain ⟨l, us, rfl, hL, hr⟩ := lq_of R h1 hx
          have hl := mapO_len hp
          refine ⟨l, us, ps, rfl, hL, dpO_of (fun r e => dpd_of R 12 r e) hr hp, fun d hd d' hd' => ?_, .inl fun d hd => ?_, by rw [← hr.len]; exact hn, fun d hd => ?_, fun p hp' => ?_⟩
          · exact List.all_eq_true.mp (List.all_eq_true.mp hc.1 d hd) d' hd'
          · have := List.all_eq_true.mp hc.2 d hd
            split at this
            · exact ⟨_, _, rfl⟩
            · cases this
          · have := List.all_eq_true.mp hc.2 d hd
            split at this
            · exact of_decide_eq_true this
            · cases this
          · refine post.new R hp' fun g => ?_
            unfold Rp
            exact ⟨p, _, rfl, upd_same, srt_rps (hr.mono g) hl⟩
        · exact post.elim
      · exact post.elim
    · exact post.elim
  · exact post.elim
end
end Mp
/-! # MpNk4 -/
namespace Mp
open PySem PySem.Spec PyProof.Rows L2
theorem hu_16 {n : Nat} (h : n + 64 < cLine) : n + 16 < cLine := by omega
/-! ## a dict by tuples is locked, what it holds stays as it is -/
def lckD (s : Sto) : D → Option (D × Sto)
  | .loc n => match s[n]? with
    | some (.dcT ks xs) => some (.dcT ks xs, s.set n .dead)
    | _ => none
  | _ => none
def sLck (i : Nat) : DS := fun δ s => match δ[i]? with
  | some (some d) => match lckD s d with
    | some (d', s') => .nx (δ.set i (some d')) s'
    | none => .nx δ s
  | _ => .nx δ s
section
variable {T : Tb} {X : Cx}
theorem lck_ok {ι : List Addr} {P F H : Hp} {s s' : Sto} {d d' : D} {v : V} {G : Hp → Prop} (R : RelH T P ι F s H) (r : Rp T F ι d v) (h : lckD s d = some (d', s')) (K : ∀ F' H', Grow F ι F' ι → RelH T P ι F' s' H' → Rp T F' ι d' v → G H') : LkT G H := by
  unfold lckD at h
  split at h
  · rename_i n
    unfold Rp at r
    obtain ⟨a, e1, rfl⟩ := r
    split at h
    · rename_i ks xs hc
      cases h
      obtain ⟨hl, o, vs, q1, q2, q3⟩ := cell_val (xs := xs) (d := .dcT ks xs) (R.cell n _ a hc e1) rfl
      obtain ⟨hP, R1⟩ := R.holdC hc hl e1 q1
      have hF1 : F a = none := R1.dis a o upd_same
      rcases q3 with q3 | ⟨mu, q3⟩
      · have g2 : Grow F ι (upd F a o) ι := grow_new hF1 o
        exact .done (K _ _ g2 (R1.thaw hP) (q3 _ g2.1 upd_same (q2.mono g2)))
      · refine .lock a o (R1.pro a o upd_same) mu fun od => .done ?_
        have R3 := R1.setP (p := a) upd_same (.frz od o)
        rw [upd_upd] at R3
        have g2 : Grow F ι (upd F a (.frz od o)) ι := grow_new hF1 _
        exact K _ _ g2 (R3.thaw hP) (q3 od _ g2.1 upd_same (q2.mono g2))
    · cases h
  · cases h
theorem b_lck {rest : List Stmt} {g : DS} (i : Nat) (h : PDb T X rest g) : PDb T X rest (sSeq (sLck i) g) := fun pn xe W tk ow => by
  obtain ⟨t1, p1, d1⟩ := h pn xe W tk ow
  refine ⟨_, pss_lk p1, fun En σ H P ι F δ s R E post => ?_⟩
  unfold sSeq sLck at post
  cases q : δ[i]? with
  | none => rw [q] at post; exact .done (d1 _ _ _ _ _ _ _ _ R E post)
  | some o =>
    cases o with
    | none => rw [q] at post; exact .done (d1 _ _ _ _ _ _ _ _ R E post)
    | some d =>
      rw [q] at post
      dsimp only at post
      cases hf : lckD s d with
      | none => rw [hf] at post; exact .done (d1 _ _ _ _ _ _ _ _ R E post)
      | some p =>
        obtain ⟨d', s'⟩ := p
        rw [hf] at post
        obtain ⟨v, e1, r1⟩ := E.at_ i d q
        refine lck_ok R r1 hf fun F' H' g' R' r' => ?_
        have E' := (E.mono g').set r' i
        have hl := (List.getElem?_eq_some_iff.mp e1).1
        have es : σ.set i (some v) = σ := by
          refine List.ext_getElem? fun j => ?_
          by_cases c : i = j
          · subst c; rw [List.getElem?_set_self hl, e1]
          · rw [List.getElem?_set_ne c]
        rw [es] at E'
        exact d1 _ _ _ _ _ _ _ _ R' E' (PostS.mono g' post)
end
end Mp
/-! # MpNk5 -/
namespace Mp
open PySem PySem.Spec PyProof.Rows L2
/-- a block within a block that reaches no name outside -/
theorem blkOk_nf {N : List Str} {sc scope : Scope} {own : List (Str × Nat)} (h : blkC N { kind := .function, names := [], isGenerator := false, isCoroutine := false } scope own = true) : BlkOk N sc scope own := by
  have b := blkOk_by h
  exact ⟨b.kind, b.uniq, b.ix, fun y hy e => (by rcases b.free y hy e with q | q <;> cases q), b.own⟩
/-! ## for .. in zip(xs, ys), ys a list cell perhaps -/
section
variable {T : Tb}
theorem walksP_zip2 {P F : Hp} {ι : List Addr} {a b : Addr} {vs us : List V} {ds es : List D} (h : F a = some (.lst vs)) (h' : P b = some (.lst us)) (r : Rps T F ι ds vs) (r' : Rps T F ι es us) : WalksP T (Itz T.K a b) (zipD ds es) P F ι := by
  have w : L2.Walk (Itz T.K a b) (min vs.length us.length) (fun H => SqL T.K H a vs ∧ SqL T.K H b us) (YPair (fun i => vs[i]?) (fun i => us[i]?)) := walk_zip rfl
  unfold WalksP
  rw [zipD_len, r.len, r'.len]
  refine w.mono (fun H hF => ⟨SqL.of (hF.1 _ _ h), SqL.of (hF.2 _ _ h')⟩) fun i H x H' hi hF y => ?_
  obtain ⟨p, v, u, e1, e2, e3, e4, e5⟩ := y
  have hi1 : i < ds.length := by rw [r.len]; omega
  have hi2 : i < es.length := by rw [r'.len]; omega
  obtain ⟨d, hd⟩ := get_lt hi1
  obtain ⟨e, he⟩ := get_lt hi2
  obtain ⟨v', h1, h2⟩ := r.get hd
  obtain ⟨u', h3, h4⟩ := r'.get he
  have e4' : vs[i]? = some v := e4
  have e5' : us[i]? = some u := e5
  rw [e4'] at h1
  rw [e5'] at h3
  cases h1
  cases h3
  exact ⟨_, zipD_at hd he, .inr ⟨p, [v, u], [d, e], e1, e2, e3, rfl, .cons h2 (.cons h4 .nil)⟩⟩
def zRun2 (t : DTg) (body : DS) (δ : Env) (xs : List D) (s1 : Sto) : Out := match xs with
  | [.lst a, .lst b] => forL t body (zipD a b) δ s1
  | [.lst a, .loc n] => match s1[n]? with
    | some (.lst b) => (forL t body (zipD a b) δ (s1.set n .dead)).back n b
    | _ => .stuck
  | _ => .stuck
def sForZ2 (fa : DA) (t : DTg) (body : DS) : DS := fun δ s => (fa δ s).out δ fun xs s1 => zRun2 t body δ xs s1
theorem s_forZ2 {X : Cx} {e e2 : Expr} {p cpos pos tpos : Pos} {elts : List Expr} {kk : Nat} {body : List Stmt} {f : DA} {ws : List Nat} {t : DTg} {g : DS} (hm : X.mg "zip" = none) (ha : PDa T X [e, e2] f) (hg : PDg T X (.Tuple elts kk tpos) ws t) (hb : PDb T X body g) (hgl : Gl X "zip" := by rfl)
    (hs : starEach [e, e2] X.env = (false, eval e X.env) :: starEach [e2] X.env := by rfl) (hpl : (backTo cpos (starEach [e2] X.env)).any (·.1) = false := by rfl) (hc : X.calm = true := by rfl) (hf : ∀ x, foldedSetIterable (.Call (.Name "zip" p) [e, e2] [] cpos) X.env x = pure x := by intro _; rfl) (hK : X.K = T.K := by rfl) :
    PDs T X (.For (.Tuple elts kk tpos) (.Call (.Name "zip" p) [e, e2] [] cpos) body [] pos) (sForZ2 f t g) := fun pn xe W tk ow => by
  obtain ⟨t1, p1, d1⟩ := ha pn xe W tk
  obtain ⟨g1, p2, d2⟩ := hg pn xe
  obtain ⟨tb, p3, d3⟩ := hb pn xe W tk ow
  have hK' : (X.tr pn xe).K = T.K := hK
  refine ⟨_, ps_for (X := X.tr pn xe) ow hc (RZ.pi_zipA (X := X.tr pn xe) hgl hm p1 hs hpl) p2 p3 hf, fun En σ H P ι F δ s R E post => ?_⟩
  rw [hK']
  unfold sForZ2 at post
  show t1 σ H _
  cases q : f δ s with
  | stuck => rw [q] at post; exact post.elim
  | exc k s1 =>
    rw [q] at post
    refine d1 σ H P ι F δ s _ R E ?_
    rw [q]
    exact fun H' ι' F' g R' => post σ H' ι' F' g R' (E.mono g)
  | ok xs s1 =>
    rw [q] at post
    refine d1 σ H P ι F δ s _ R E ?_
    rw [q]
    intro v H1 ι1 F1 g1 R1 r1
    have post1 : PostS T P En W F1 ι1 (zRun2 t g δ xs s1) := PostS.mono g1 post
    have E1 := E.mono g1
    unfold zRun2 at post1
    split at post1
    · obtain ⟨v, u, rfl, h1, h2⟩ := rps2 r1.1
      unfold Rp at h1 h2
      obtain ⟨a, vs, rfl, h3, h4⟩ := h1
      obtain ⟨b, us, rfl, h5, h6⟩ := h2
      exact ⟨a, b, vs, us, rfl, .inl ⟨SqL.of (R1.sub _ _ h3), SqL.of (R1.sub _ _ h5), for_run d2 d3 ((walks_zip (SqL.of h3) (SqL.of h5) h4 h6).toP P) R1 E1 post1⟩⟩
    · obtain ⟨v, u, rfl, h1, h2⟩ := rps2 r1.1
      unfold Rp at h1 h2
      obtain ⟨a, vs, rfl, h3, h4⟩ := h1
      obtain ⟨b, e1, rfl⟩ := h2
      split at post1
      · rename_i ys hs1
        obtain ⟨us, k1, k2, k3, k4, R2⟩ := R1.hold hs1 e1
        exact ⟨a, b, vs, us, rfl, .inl ⟨SqL.of (R1.sub _ _ h3), SqL.of k1, for_run d2 d3 (walksP_zip2 (P := upd P b (.lst us)) h3 upd_same h4 k2) R2 E1 (posts_back k4 e1 k2 post1)⟩⟩
      · exact post1.elim
    · exact post1.elim
@[simp] theorem sForZ2_eq {fa : DA} {t : DTg} {body : DS} {δ : Env} {s : Sto} : sForZ2 fa t body δ s = (fa δ s).out δ fun xs s1 => zRun2 t body δ xs s1 := rfl
end
end Mp
/-! # the defs -/
namespace Rb
open PySem PySem.Spec L2 Mp
def top (i : Nat) : Stmt := PySem.Challenge.pw_roadbook_k19_least_by_all_ways.main.body.getD i (.Pass ⟨0, 0, 0, 0⟩)
def inClass (st : Stmt) (j : Nat) : Stmt := match st with
  | .ClassDef _ _ _ body .. => body.getD j (.Pass ⟨0, 0, 0, 0⟩)
  | _ => .Pass ⟨0, 0, 0, 0⟩
abbrev s_is_among : Stmt := top 12
abbrev s_zone_bits : Stmt := top 14
abbrev s_is_name : Stmt := top 26
abbrev s_Net_ticket : Stmt := inClass (top 31) 17
abbrev s_fits : Stmt := top 15
abbrev s_holds_still : Stmt := top 17
abbrev s_keep_least : Stmt := top 18
abbrev s_Net_tickets : Stmt := inClass (top 31) 11
abbrev s_behind_ride : Stmt := top 19
abbrev s_least_tickets : Stmt := top 20
abbrev s_need_fresh : Stmt := top 27
abbrev s_need_among : Stmt := top 28
abbrev s_need_room : Stmt := top 29
abbrev s_are_zones : Stmt := top 30
abbrev s_Net___init__ : Stmt := inClass (top 31) 0
abbrev s_Net_add_ticket : Stmt := inClass (top 31) 7
abbrev s__law_draw : Stmt := top 33
abbrev s__law_whole : Stmt := top 34
abbrev s__law_names : Stmt := top 35
abbrev s__law_zones : Stmt := top 36
abbrev s__law_tickets : Stmt := top 37
abbrev s__law_net : Stmt := top 38
abbrev s__law_rides : Stmt := top 39
abbrev s__law_edged : Stmt := top 40
abbrev s__law_crossed : Stmt := top 41
abbrev s__law_spent : Stmt := top 42
abbrev s__law_least : Stmt := top 43
abbrev s__law_good : Stmt := top 44
abbrev s_law : Stmt := top 45
def caT (K : PySem.W.Frag) : Nat → Addr
  | 0 => He.ga K "RoadError"
  | 1 => He.ga K "TooMany"
  | 2 => He.ga K "BadName"
  | 3 => He.ga K "Twice"
  | 4 => He.ga K "NoStop"
  | 5 => He.ga K "NoRule"
  | 6 => He.ga K "NoTicket"
  | 7 => He.ga K "NoTrip"
  | 8 => He.ga K "BadNumber"
  | 9 => He.ga K "Net"
  | _ => 0
def fmT : Nat → Str
  | 0 => "spots"
  | 1 => "paths"
  | 2 => "habits"
  | 3 => "passes"
  | 4 => "lines"
  | _ => ""
abbrev tb (K : PySem.W.Frag) (w : World) : Tb := { K := K, hs := NestedKey.hash w, ca := caT K, fm := fmT }
abbrev parT : List Nat := [0, 0, 0, 0, 0, 0, 0, 0, 0]
abbrev n1T : Nat := 9
abbrev parA : List Nat := [0, 0, 0, 0, 0, 0, 0, 0, 0, 9]
abbrev csT : List Nat := [9]
theorem nm_add_ticket : ∀ i, i < 5 → fmT i ≠ "add_ticket" := by decide +kernel
theorem nm_ticket : ∀ i, i < 5 → fmT i ≠ "ticket" := by decide +kernel
theorem nm_tickets : ∀ i, i < 5 → fmT i ≠ "tickets" := by decide +kernel
structure Txt (K : PySem.W.Frag) (mg : Str → Option Value) : Prop where
  f_all : mg "all" = none
  f_bool : mg "bool" = none
  f_enumerate : mg "enumerate" = none
  f_int : mg "int" = none
  f_isinstance : mg "isinstance" = none
  f_len : mg "len" = none
  f_list : mg "list" = none
  f_max : mg "max" = none
  f_range : mg "range" = none
  f_str : mg "str" = none
  f_tuple : mg "tuple" = none
  f_zip : mg "zip" = none
  k_LETTERS : ∃ u, mg "LETTERS" = some u ∧ RelV (.str (S [97, 98, 99, 100, 101, 102, 103, 104, 105, 106, 107, 108, 109, 110, 111, 112, 113, 114, 115, 116, 117, 118, 119, 120, 121, 122])) u
  k_MOST_LETTERS : ∃ u, mg "MOST_LETTERS" = some u ∧ RelV (.int 8) u
  k_MOST_TICKETS : ∃ u, mg "MOST_TICKETS" = some u ∧ RelV (.int 3) u
  k_MOST_ZONE : ∃ u, mg "MOST_ZONE" = some u ∧ RelV (.int 6) u
  c_RoadError : mg "RoadError" = some (.ref (caT K 0))
  c_TooMany : mg "TooMany" = some (.ref (caT K 1))
  c_BadName : mg "BadName" = some (.ref (caT K 2))
  c_Twice : mg "Twice" = some (.ref (caT K 3))
  c_NoStop : mg "NoStop" = some (.ref (caT K 4))
  c_NoRule : mg "NoRule" = some (.ref (caT K 5))
  c_NoTicket : mg "NoTicket" = some (.ref (caT K 6))
  c_NoTrip : mg "NoTrip" = some (.ref (caT K 7))
  c_BadNumber : mg "BadNumber" = some (.ref (caT K 8))
  c_Net : mg "Net" = some (.ref (caT K 9))
  xt : ExT K (caT K) parT n1T
  ob : ObT K (caT K) fmT csT 5
  ki : KiT K (caT K) parA csT
/-! ### is_among -/
abbrev N_is_among : List Str := ["thing", "least", "most"]
def g_is_among : DS :=
  (sRet (dAndV (dBi (bIsO parT parA csT) (aCons (dVar 0) (aCons (dC (.ty "int")) aNil))) (dAndV (dNotV (dBi (bIsO parT parA csT) (aCons (dVar 0) (aCons (dC (.ty "bool")) aNil)))) (dChain oLe oLe (dVar 1) (dVar 0) (dVar 2)))))
def f_is_among : List D → Sto → Res D := mkF 3 3 g_is_among
theorem sc_is_among : FnScope N_is_among ["thing", "least", "most"] (defScope s_is_among) := ⟨rfl, rfl, rfl, by decide +kernel, rfl, by decide +kernel, by decide +kernel⟩
section
variable {P : Program} {w : World} {K : PySem.W.Frag} {mg : Str → Option Value} {base : Heap}
theorem b_is_among (Tx : Txt K mg)  {f : Addr} (cdv : Value) (A : Around) (outer : List PySem.Env) (s : Shared) (H : Hp) (E : XK) (hr : Room 0 (A.deeper (PyProof.Rows.envOfC "is_among" (defScope s_is_among) s.heap.objs.size f cdv))) : PDb (tb K w) (cxOf (L2.CX P w) P w (tb K w).K mg base N_is_among "is_among" (defScope s_is_among) f cdv A outer s H E) (defBody s_is_among) (g_is_among) :=
  (b_one (s_ret (d_and (d_callB (fun _ _ => call_isA) (db_isO Tx.xt Tx.ob Tx.ki) Tx.f_isinstance (by decide +kernel) (a_cons (d_var 0) (a_cons (d_ty "int" Tx.f_int (by decide +kernel)) a_nil))) (d_and (d_not (d_callB (fun _ _ => call_isA) (db_isO Tx.xt Tx.ob Tx.ki) Tx.f_isinstance (by decide +kernel) (a_cons (d_var 0) (a_cons (d_ty "bool" Tx.f_bool (by decide +kernel)) a_nil)))) (d_one (d_chain (fun _ _ => op_le) (fun _ _ => op_le) do_cmp do_cmp (d_var 1) (d_var 0) (d_var 2)))))))
end
/-! ### zone_bits -/
abbrev N_zone_bits : List Str := ["zones", "bits", "zone"]
def g_zone_bits_b1 : DS :=
  (sSet 1 (dOp oOr (dVar 1) (dOp oShl (dC (.int 1)) (dOp oSub (dVar 2) (dC (.int 1))))))
def g_zone_bits : DS :=
  (sSeq (sSet 1 (dC (.int 0)))
    (sSeq (sFor (itAny (dVar 0)) (tgN 2) g_zone_bits_b1)
    (sRet (dVar 1))))
def f_zone_bits : List D → Sto → Res D := mkF 3 1 g_zone_bits
theorem sc_zone_bits : FnScope N_zone_bits ["zones"] (defScope s_zone_bits) := ⟨rfl, rfl, rfl, by decide +kernel, rfl, by decide +kernel, by decide +kernel⟩
section
variable {P : Program} {w : World} {K : PySem.W.Frag} {mg : Str → Option Value} {base : Heap}
theorem b_zone_bits (Tx : Txt K mg)  {f : Addr} (cdv : Value) (A : Around) (outer : List PySem.Env) (s : Shared) (H : Hp) (E : XK) (hr : Room 0 (A.deeper (PyProof.Rows.envOfC "zone_bits" (defScope s_zone_bits) s.heap.objs.size f cdv))) : PDb (tb K w) (cxOf (L2.CX P w) P w (tb K w).K mg base N_zone_bits "zone_bits" (defScope s_zone_bits) f cdv A outer s H E) (defBody s_zone_bits) (g_zone_bits) :=
  (b_cons (s_set 1 sc_zone_bits.nd d_int)
    (b_cons (s_for (i_any (d_var 0)) (g_name 2 sc_zone_bits.nd) (b_one (s_set 1 sc_zone_bits.nd (d_op (fun _ _ => op_or) do_or (d_var 1) (d_op (fun _ _ => op_shl) do_shl d_int (d_op (fun _ _ => op_sub) do_sub (d_var 2) d_int))))))
    (b_one (s_ret (d_var 1)))))
end
/-! ### is_name -/
abbrev N_is_name : List Str := ["thing", "sign"]
def g_is_name : DS :=
  (sSeq (sIf (tOrD (tNotD (tst (dBi (bIsO parT parA csT) (aCons (dVar 0) (aCons (dC (.ty "str")) aNil))))) (tNotD (tst (dChain oLe oLe (dC (.int 1)) (dBi bLen (aCons (dVar 0) aNil)) (dC (.int 8)))))) (sRet (dC (.bl false))) sPass)
    (sRet (dBi bAll (aCons (dLc (itAny (dVar 0)) (tgN 1) cYes (dOp (oInA false) (dVar 1) (dC (.str [97, 98, 99, 100, 101, 102, 103, 104, 105, 106, 107, 108, 109, 110, 111, 112, 113, 114, 115, 116, 117, 118, 119, 120, 121, 122]))) [1]) aNil))))
def f_is_name : List D → Sto → Res D := mkF 2 1 g_is_name
theorem sc_is_name : FnScope N_is_name ["thing"] (defScope s_is_name) := ⟨rfl, rfl, rfl, by decide +kernel, rfl, by decide +kernel, by decide +kernel⟩
section
variable {P : Program} {w : World} {K : PySem.W.Frag} {mg : Str → Option Value} {base : Heap}
theorem b_is_name (Tx : Txt K mg)  {f : Addr} (cdv : Value) (A : Around) (outer : List PySem.Env) (s : Shared) (H : Hp) (E : XK) (hr : Room 0 (A.deeper (PyProof.Rows.envOfC "is_name" (defScope s_is_name) s.heap.objs.size f cdv))) : PDb (tb K w) (cxOf (L2.CX P w) P w (tb K w).K mg base N_is_name "is_name" (defScope s_is_name) f cdv A outer s H E) (defBody s_is_name) (g_is_name) :=
  (b_cons (s_if (PDw.t (w_or (t_not (t_val (d_callB (fun _ _ => call_isA) (db_isO Tx.xt Tx.ob Tx.ki) Tx.f_isinstance (by decide +kernel) (a_cons (d_var 0) (a_cons (d_ty "str" Tx.f_str (by decide +kernel)) a_nil))))) (w_or1 (t_not (t_chain (fun _ _ => op_le) (fun _ _ => op_le) do_cmp do_cmp d_int (d_callB (fun _ _ => call_len) db_len Tx.f_len (by decide +kernel) (a_cons (d_var 0) a_nil)) (d_glob (d := .int 8) (v := .int 8) (fun _ _ => by unfold Rp; rfl) Tx.k_MOST_LETTERS)))))) (b_one (s_ret d_bl)) b_nil)
    (b_one (s_ret (d_callB (fun _ _ => cr_all rfl) db_all Tx.f_all (by decide +kernel) (a_cons (d_lc (own := [("sign", 1)]) sc_is_name.nd (i_any (d_var 0)) (blkOk_by (sc := defScope s_is_name) (N := N_is_name) (by decide +kernel)) (fun _ _ _ _ _ => (g_name 1 sc_is_name.nd)) (fun _ _ _ _ _ => ts_nil) (fun _ _ _ _ _ => (d_cmp (fun _ _ => op_inA) do_inA (d_var 1) (d_glob (d := .str [97, 98, 99, 100, 101, 102, 103, 104, 105, 106, 107, 108, 109, 110, 111, 112, 113, 114, 115, 116, 117, 118, 119, 120, 121, 122]) (v := .str (S [97, 98, 99, 100, 101, 102, 103, 104, 105, 106, 107, 108, 109, 110, 111, 112, 113, 114, 115, 116, 117, 118, 119, 120, 121, 122])) (fun _ _ => by unfold Rp; rfl) Tx.k_LETTERS) (by rfl)))) a_nil)))))
end
/-! ### Net.ticket -/
abbrev N_Net_ticket : List Str := ["self", "name", "price", "lasts", "zones"]
def g_Net_ticket : DS :=
  (sSeq (sIf (tOrD (tNotD (tst (dCall f_is_name (aCons (dVar 1) aNil)))) (tst (dDin true (dVar 1) (dFld csT 5 3 (dVar 0))))) (sRaise 6) sPass)
    (sSeq (sAsg (dDix (dFld csT 5 3 (dVar 0)) (dVar 1)) (tgT [(tgN 2), (tgN 3), (tgN 4)]))
    (sRet (dTup (aCons (dVar 2) (aCons (dVar 3) (aCons (dBi bList (aCons (dVar 4) aNil)) aNil)))))))
def f_Net_ticket : List D → Sto → Res D := mkF 5 2 g_Net_ticket
theorem sc_Net_ticket : FnScope N_Net_ticket ["self", "name"] (defScope s_Net_ticket) := ⟨rfl, rfl, rfl, by decide +kernel, rfl, by decide +kernel, by decide +kernel⟩
section
variable {P : Program} {w : World} {K : PySem.W.Frag} {mg : Str → Option Value} {base : Heap}
theorem b_Net_ticket (Tx : Txt K mg) (c_is_name : Cl (tb K w) P w mg base "is_name" 1 1 f_is_name) {f : Addr} (cdv : Value) (A : Around) (outer : List PySem.Env) (s : Shared) (H : Hp) (E : XK) (hr : Room 1 (A.deeper (PyProof.Rows.envOfC "Net.ticket" (defScope s_Net_ticket) s.heap.objs.size f cdv))) : PDb (tb K w) (cxOf (L2.CX P w) P w (tb K w).K mg base N_Net_ticket "Net.ticket" (defScope s_Net_ticket) f cdv A outer s H E) (defBody s_Net_ticket) (g_Net_ticket) :=
  (b_cons (s_if (PDw.t (w_or (t_not (t_val (d_call c_is_name (a_cons (d_var 1) a_nil) hr (by omega)))) (w_or1 (t_dnotin (d_var 1) (d_fld 3 Tx.ob (d_var 0)) (hu_of hr.units))))) (b_one (s_raise 6 Tx.xt Tx.c_NoTicket)) b_nil)
    (b_cons (s_asg (d_dix (d_fld 3 Tx.ob (d_var 0)) (d_var 1) (hu_of hr.units)) (g_tup (gs_cons (g_name 2 sc_Net_ticket.nd) (gs_cons (g_name 3 sc_Net_ticket.nd) (gs_cons (g_name 4 sc_Net_ticket.nd) gs_nil)))))
    (b_one (s_ret (d_tup (a_cons (d_var 2) (a_cons (d_var 3) (a_cons (d_callT (fun _ _ => call_list_of) db_list Tx.f_list (by decide +kernel) (a_cons (d_var 4) a_nil)) a_nil))))))))
end
/-! ### fits -/
abbrev N_fits : List Str := ["net", "ticket", "bits"]
def g_fits : DS :=
  (sRet (dOp oEq (dOp oAnd (dVar 2) (dCall f_zone_bits (aCons (dOp oIx (dMeth 5 [(9, f_Net_ticket)] (dVar 0) (aCons (dVar 1) aNil)) (dC (.int 2))) aNil))) (dVar 2)))
def f_fits : List D → Sto → Res D := mkF 3 3 g_fits
theorem sc_fits : FnScope N_fits ["net", "ticket", "bits"] (defScope s_fits) := ⟨rfl, rfl, rfl, by decide +kernel, rfl, by decide +kernel, by decide +kernel⟩
section
variable {P : Program} {w : World} {K : PySem.W.Frag} {mg : Str → Option Value} {base : Heap}
theorem b_fits (Tx : Txt K mg) (c_zone_bits : Cl (tb K w) P w mg base "zone_bits" 1 1 f_zone_bits) (m_Net_ticket : Mc (tb K w) P w mg base 9 "ticket" 2 2 f_Net_ticket) {f : Addr} (cdv : Value) (A : Around) (outer : List PySem.Env) (s : Shared) (H : Hp) (E : XK) (hr : Room 2 (A.deeper (PyProof.Rows.envOfC "fits" (defScope s_fits) s.heap.objs.size f cdv))) : PDb (tb K w) (cxOf (L2.CX P w) P w (tb K w).K mg base N_fits "fits" (defScope s_fits) f cdv A outer s H E) (defBody s_fits) (g_fits) :=
  (b_one (s_ret (d_cmp (fun _ _ => op_eqA hr.units) do_eq (d_op (fun _ _ => op_and) do_and (d_var 2) (d_call c_zone_bits (a_cons (d_ix (d_meth (nF := 5) (j := 2) (tbl := [(9, f_Net_ticket)]) ⟨⟨m_Net_ticket.up (by omega), rfl⟩, trivial⟩ nm_ticket (d_var 0) (a_cons (d_var 1) a_nil) hr) d_int) a_nil) hr (by omega))) (d_var 2) (nomark _))))
end
/-! ### holds_still -/
abbrev N_holds_still : List Str := ["net", "held", "until", "ride"]
def g_holds_still : DS :=
  (sRet (dAndV (dOp (oIs true) (dVar 1) (dC .non)) (dAndV (dOp oLt (dOp oIx (dVar 3) (dC (.int 1))) (dVar 2)) (dCall f_fits (aCons (dVar 0) (aCons (dVar 1) (aCons (dOp oIx (dVar 3) (dC (.int 0))) aNil)))))))
def f_holds_still : List D → Sto → Res D := mkF 4 4 g_holds_still
theorem sc_holds_still : FnScope N_holds_still ["net", "held", "until", "ride"] (defScope s_holds_still) := ⟨rfl, rfl, rfl, by decide +kernel, rfl, by decide +kernel, by decide +kernel⟩
section
variable {P : Program} {w : World} {K : PySem.W.Frag} {mg : Str → Option Value} {base : Heap}
theorem b_holds_still (Tx : Txt K mg) (c_fits : Cl (tb K w) P w mg base "fits" 3 3 f_fits) {f : Addr} (cdv : Value) (A : Around) (outer : List PySem.Env) (s : Shared) (H : Hp) (E : XK) (hr : Room 3 (A.deeper (PyProof.Rows.envOfC "holds_still" (defScope s_holds_still) s.heap.objs.size f cdv))) : PDb (tb K w) (cxOf (L2.CX P w) P w (tb K w).K mg base N_holds_still "holds_still" (defScope s_holds_still) f cdv A outer s H E) (defBody s_holds_still) (g_holds_still) :=
  (b_one (s_ret (d_and (d_cmp (fun _ _ => op_notN) do_isnot (d_var 1) d_non (nomark _)) (d_and (d_cmp (fun _ _ => op_lt) do_cmp (d_ix (d_var 3) d_int) (d_var 2) (nomark _)) (d_one (d_call c_fits (a_cons (d_var 0) (a_cons (d_var 1) (a_cons (d_ix (d_var 3) d_int) a_nil))) hr (by omega)))))))
end
/-! ### keep_least -/
abbrev N_keep_least : List Str := ["ways", "key", "way"]
def g_keep_least : DS :=
  (sIf (tOrD (tst (dTin true (dVar 1) (dVar 0))) (tst (dOp oLt (dOp oIx (dVar 2) (dC (.int 0))) (dOp oIx (dTix (dVar 0) (dVar 1)) (dC (.int 0)))))) (sTput (dVar 2) (dVar 0) (dVar 1)) sPass)
def f_keep_least : List D → Sto → Res D := mkF 3 3 g_keep_least
theorem sc_keep_least : FnScope N_keep_least ["ways", "key", "way"] (defScope s_keep_least) := ⟨rfl, rfl, rfl, by decide +kernel, rfl, by decide +kernel, by decide +kernel⟩
section
variable {P : Program} {w : World} {K : PySem.W.Frag} {mg : Str → Option Value} {base : Heap}
theorem b_keep_least (Tx : Txt K mg)  {f : Addr} (cdv : Value) (A : Around) (outer : List PySem.Env) (s : Shared) (H : Hp) (E : XK) (hr : Room 0 (A.deeper (PyProof.Rows.envOfC "keep_least" (defScope s_keep_least) s.heap.objs.size f cdv))) : PDb (tb K w) (cxOf (L2.CX P w) P w (tb K w).K mg base N_keep_least "keep_least" (defScope s_keep_least) f cdv A outer s H E) (defBody s_keep_least) (g_keep_least) :=
  (b_one (s_if (PDw.t (w_or (t_tnotin (d_var 1) (d_var 0) (hu_16 hr.units)) (w_or1 (t_cmp (fun _ _ => op_lt) do_cmp (d_ix (d_var 2) d_int) (d_ix (d_tix (d_var 0) (d_var 1) (hu_16 hr.units)) d_int) (nomark _))))) (b_one (s_tput (d_var 2) (d_var 0) (d_var 1) (hu_16 hr.units))) b_nil))
end
/-! ### Net.tickets -/
abbrev N_Net_tickets : List Str := ["self"]
def g_Net_tickets : DS :=
  (sRet (dBi bListA (aCons (dFld csT 5 3 (dVar 0)) aNil)))
def f_Net_tickets : List D → Sto → Res D := mkF 1 1 g_Net_tickets
theorem sc_Net_tickets : FnScope N_Net_tickets ["self"] (defScope s_Net_tickets) := ⟨rfl, rfl, rfl, by decide +kernel, rfl, by decide +kernel, by decide +kernel⟩
section
variable {P : Program} {w : World} {K : PySem.W.Frag} {mg : Str → Option Value} {base : Heap}
theorem b_Net_tickets (Tx : Txt K mg)  {f : Addr} (cdv : Value) (A : Around) (outer : List PySem.Env) (s : Shared) (H : Hp) (E : XK) (hr : Room 0 (A.deeper (PyProof.Rows.envOfC "Net.tickets" (defScope s_Net_tickets) s.heap.objs.size f cdv))) : PDb (tb K w) (cxOf (L2.CX P w) P w (tb K w).K mg base N_Net_tickets "Net.tickets" (defScope s_Net_tickets) f cdv A outer s H E) (defBody s_Net_tickets) (g_Net_tickets) :=
  (b_one (s_ret (d_callT (fun _ _ => call_listA rfl) db_listA Tx.f_list (by decide +kernel) (a_cons (d_fld 3 Tx.ob (d_var 0)) a_nil))))
end
/-! ### behind_ride -/
abbrev N_behind_ride : List Str := ["net", "ride", "ways", "found", "key", "way", "held", "until", "name", "ticket"]
def g_behind_ride_b1 : DS :=
  (sIf (tst (dCall f_fits (aCons (dVar 0) (aCons (dVar 8) (aCons (dOp oIx (dVar 1) (dC (.int 0))) aNil))))) (sSeq (sSet 9 (dMeth 5 [(9, f_Net_ticket)] (dVar 0) (aCons (dVar 8) aNil)))
    (sDrop (dCall f_keep_least (aCons (dVar 3) (aCons (dTup (aCons (dVar 8) (aCons (dOp oAdd (dOp oIx (dVar 1) (dC (.int 1))) (dOp oIx (dVar 9) (dC (.int 1)))) aNil))) (aCons (dTup (aCons (dOp oAdd (dOp oIx (dVar 5) (dC (.int 0))) (dOp oIx (dVar 9) (dC (.int 0)))) (aCons (dOp oAddC (dOp oIx (dVar 5) (dC (.int 1))) (dLst (aCons (dVar 8) aNil))) aNil))) aNil)))))) sPass)
def g_behind_ride_b2 : DS :=
  (sSeq (sAsg (dVar 4) (tgT [(tgN 6), (tgN 7)]))
    (sSeq (sIf (tst (dCall f_holds_still (aCons (dVar 0) (aCons (dVar 6) (aCons (dVar 7) (aCons (dVar 1) aNil)))))) (sDrop (dCall f_keep_least (aCons (dVar 3) (aCons (dVar 4) (aCons (dTup (aCons (dOp oIx (dVar 5) (dC (.int 0))) (aCons (dOp oAddC (dOp oIx (dVar 5) (dC (.int 1))) (dLst (aCons (dC .non) aNil))) aNil))) aNil))))) sPass)
    (sFor (itAny (dMeth 5 [(9, f_Net_tickets)] (dVar 0) aNil)) (tgN 8) g_behind_ride_b1)))
def g_behind_ride : DS :=
  (sSeq (sSet 3 dDctT)
    (sSeq (sFor (itItemsT (dVar 2)) (tgT [(tgN 4), (tgN 5)]) g_behind_ride_b2)
    (sSeq (sFrz 3) (sSeq (sLck 3) (sRet (dVar 3))))))
def f_behind_ride : List D → Sto → Res D := mkF 10 3 g_behind_ride
theorem sc_behind_ride : FnScope N_behind_ride ["net", "ride", "ways"] (defScope s_behind_ride) := ⟨rfl, rfl, rfl, by decide +kernel, rfl, by decide +kernel, by decide +kernel⟩
section
variable {P : Program} {w : World} {K : PySem.W.Frag} {mg : Str → Option Value} {base : Heap}
theorem b_behind_ride (Tx : Txt K mg) (c_holds_still : Cl (tb K w) P w mg base "holds_still" 4 4 f_holds_still) (c_keep_least : Cl (tb K w) P w mg base "keep_least" 1 3 f_keep_least) (c_fits : Cl (tb K w) P w mg base "fits" 3 3 f_fits) (m_Net_tickets : Mc (tb K w) P w mg base 9 "tickets" 1 1 f_Net_tickets) (m_Net_ticket : Mc (tb K w) P w mg base 9 "ticket" 2 2 f_Net_ticket) {f : Addr} (cdv : Value) (A : Around) (outer : List PySem.Env) (s : Shared) (H : Hp) (E : XK) (hr : Room 4 (A.deeper (PyProof.Rows.envOfC "behind_ride" (defScope s_behind_ride) s.heap.objs.size f cdv))) : PDb (tb K w) (cxOf (L2.CX P w) P w (tb K w).K mg base N_behind_ride "behind_ride" (defScope s_behind_ride) f cdv A outer s H E) (defBody s_behind_ride) (g_behind_ride) :=
  (b_cons (s_set 3 sc_behind_ride.nd d_dctT)
    (b_cons (s_for (i_itemsT (d_var 2)) (g_tup (gs_cons (g_name 4 sc_behind_ride.nd) (gs_cons (g_name 5 sc_behind_ride.nd) gs_nil))) (b_cons (s_asg (d_var 4) (g_tup (gs_cons (g_name 6 sc_behind_ride.nd) (gs_cons (g_name 7 sc_behind_ride.nd) gs_nil))))
    (b_cons (s_if (t_val (d_call c_holds_still (a_cons (d_var 0) (a_cons (d_var 6) (a_cons (d_var 7) (a_cons (d_var 1) a_nil)))) hr (by omega))) (b_one (s_expr (d_call c_keep_least (a_cons (d_var 3) (a_cons (d_var 4) (a_cons (d_tup (a_cons (d_ix (d_var 5) d_int) (a_cons (d_op (fun _ _ => op_addA) do_addC (d_ix (d_var 5) d_int) (d_lst (a_cons d_non a_nil))) a_nil))) a_nil))) hr (by omega)))) b_nil)
    (b_one (s_for (i_any (d_meth0 (nF := 5) (j := 4) (tbl := [(9, f_Net_tickets)]) ⟨⟨m_Net_tickets.up (by omega), rfl⟩, trivial⟩ nm_tickets (d_var 0) hr)) (g_name 8 sc_behind_ride.nd) (b_one (s_if (t_val (d_call c_fits (a_cons (d_var 0) (a_cons (d_var 8) (a_cons (d_ix (d_var 1) d_int) a_nil))) hr (by omega))) (b_cons (s_set 9 sc_behind_ride.nd (d_meth (nF := 5) (j := 4) (tbl := [(9, f_Net_ticket)]) ⟨⟨m_Net_ticket.up (by omega), rfl⟩, trivial⟩ nm_ticket (d_var 0) (a_cons (d_var 8) a_nil) hr))
    (b_one (s_expr (d_call c_keep_least (a_cons (d_var 3) (a_cons (d_tup (a_cons (d_var 8) (a_cons (d_op (fun _ _ => op_addA) do_add (d_ix (d_var 1) d_int) (d_ix (d_var 9) d_int)) a_nil))) (a_cons (d_tup (a_cons (d_op (fun _ _ => op_addA) do_add (d_ix (d_var 5) d_int) (d_ix (d_var 9) d_int)) (a_cons (d_op (fun _ _ => op_addA) do_addC (d_ix (d_var 5) d_int) (d_lst (a_cons (d_var 8) a_nil))) a_nil))) a_nil))) hr (by omega))))) b_nil)))))))
    (b_frz 3 (b_lck 3 (b_one (s_ret (d_var 3)))))))
end
/-! ### least_tickets -/
abbrev N_least_tickets : List Str := ["net", "rides", "ways", "ride", "best", "way"]
def g_least_tickets_b1 : DS :=
  (sSet 2 (dCall f_behind_ride (aCons (dVar 0) (aCons (dVar 3) (aCons (dVar 2) aNil)))))
def g_least_tickets_b2 : DS :=
  (sIf (tOrD (tst (dOp (oIs false) (dVar 4) (dC .non))) (tst (dOp oLt (dOp oIx (dVar 5) (dC (.int 0))) (dOp oIx (dVar 4) (dC (.int 0)))))) (sSet 4 (dVar 5)) sPass)
def g_least_tickets : DS :=
  (sSeq (sSet 2 (dDispT (psCons (dTup (aCons (dC .non) (aCons (dUn (fun i => -i) (dC (.int 1))) aNil))) (dTup (aCons (dC (.int 0)) (aCons (dLstC aNil) aNil))) psNil)))
    (sSeq (sLck 2) (sSeq (sFor (itAny (dVar 1)) (tgN 3) g_least_tickets_b1)
    (sSeq (sSet 4 (dC .non))
    (sSeq (sFor (itValsT (dVar 2)) (tgN 5) g_least_tickets_b2)
    (sRet (dVar 4)))))))
def f_least_tickets : List D → Sto → Res D := mkF 6 2 g_least_tickets
theorem sc_least_tickets : FnScope N_least_tickets ["net", "rides"] (defScope s_least_tickets) := ⟨rfl, rfl, rfl, by decide +kernel, rfl, by decide +kernel, by decide +kernel⟩
section
variable {P : Program} {w : World} {K : PySem.W.Frag} {mg : Str → Option Value} {base : Heap}
theorem b_least_tickets (Tx : Txt K mg) (c_behind_ride : Cl (tb K w) P w mg base "behind_ride" 5 3 f_behind_ride) {f : Addr} (cdv : Value) (A : Around) (outer : List PySem.Env) (s : Shared) (H : Hp) (E : XK) (hr : Room 5 (A.deeper (PyProof.Rows.envOfC "least_tickets" (defScope s_least_tickets) s.heap.objs.size f cdv))) : PDb (tb K w) (cxOf (L2.CX P w) P w (tb K w).K mg base N_least_tickets "least_tickets" (defScope s_least_tickets) f cdv A outer s H E) (defBody s_least_tickets) (g_least_tickets) :=
  (b_cons (s_set 2 sc_least_tickets.nd (d_dispT (p_cons (d_tup (a_cons d_non (a_cons (d_neg d_int) a_nil))) (d_tup (a_cons d_int (a_cons (d_lstC a_nil) a_nil))) p_nil) (hu_16 hr.units)))
    (b_lck 2 (b_cons (s_for (i_any (d_var 1)) (g_name 3 sc_least_tickets.nd) (b_one (s_set 2 sc_least_tickets.nd (d_call c_behind_ride (a_cons (d_var 0) (a_cons (d_var 3) (a_cons (d_var 2) a_nil))) hr (by omega)))))
    (b_cons (s_set 4 sc_least_tickets.nd d_non)
    (b_cons (s_for (i_valsT (d_var 2)) (g_name 5 sc_least_tickets.nd) (b_one (s_if (PDw.t (w_or (t_cmp (fun _ _ => op_isN) do_is (d_var 4) d_non (nomark _)) (w_or1 (t_cmp (fun _ _ => op_lt) do_cmp (d_ix (d_var 5) d_int) (d_ix (d_var 4) d_int) (nomark _))))) (b_one (s_set 4 sc_least_tickets.nd (d_var 5))) b_nil)))
    (b_one (s_ret (d_var 4))))))))
end
/-! ### need_fresh -/
abbrev N_need_fresh : List Str := ["name", "kept"]
def g_need_fresh : DS :=
  (sSeq (sIf (tNotD (tst (dCall f_is_name (aCons (dVar 0) aNil)))) (sRaise 2) sPass)
    (sIf (tst (dDin false (dVar 0) (dVar 1))) (sRaise 3) sPass))
def f_need_fresh : List D → Sto → Res D := mkF 2 2 g_need_fresh
theorem sc_need_fresh : FnScope N_need_fresh ["name", "kept"] (defScope s_need_fresh) := ⟨rfl, rfl, rfl, by decide +kernel, rfl, by decide +kernel, by decide +kernel⟩
section
variable {P : Program} {w : World} {K : PySem.W.Frag} {mg : Str → Option Value} {base : Heap}
theorem b_need_fresh (Tx : Txt K mg) (c_is_name : Cl (tb K w) P w mg base "is_name" 1 1 f_is_name) {f : Addr} (cdv : Value) (A : Around) (outer : List PySem.Env) (s : Shared) (H : Hp) (E : XK) (hr : Room 1 (A.deeper (PyProof.Rows.envOfC "need_fresh" (defScope s_need_fresh) s.heap.objs.size f cdv))) : PDb (tb K w) (cxOf (L2.CX P w) P w (tb K w).K mg base N_need_fresh "need_fresh" (defScope s_need_fresh) f cdv A outer s H E) (defBody s_need_fresh) (g_need_fresh) :=
  (b_cons (s_if (t_not (t_val (d_call c_is_name (a_cons (d_var 0) a_nil) hr (by omega)))) (b_one (s_raise 2 Tx.xt Tx.c_BadName)) b_nil)
    (b_one (s_if (t_din (d_var 0) (d_var 1) (hu_of hr.units)) (b_one (s_raise 3 Tx.xt Tx.c_Twice)) b_nil)))
end
/-! ### need_among -/
abbrev N_need_among : List Str := ["thing", "least", "most"]
def g_need_among : DS :=
  (sIf (tNotD (tst (dCall f_is_among (aCons (dVar 0) (aCons (dVar 1) (aCons (dVar 2) aNil)))))) (sRaise 8) sPass)
def f_need_among : List D → Sto → Res D := mkF 3 3 g_need_among
theorem sc_need_among : FnScope N_need_among ["thing", "least", "most"] (defScope s_need_among) := ⟨rfl, rfl, rfl, by decide +kernel, rfl, by decide +kernel, by decide +kernel⟩
section
variable {P : Program} {w : World} {K : PySem.W.Frag} {mg : Str → Option Value} {base : Heap}
theorem b_need_among (Tx : Txt K mg) (c_is_among : Cl (tb K w) P w mg base "is_among" 1 3 f_is_among) {f : Addr} (cdv : Value) (A : Around) (outer : List PySem.Env) (s : Shared) (H : Hp) (E : XK) (hr : Room 1 (A.deeper (PyProof.Rows.envOfC "need_among" (defScope s_need_among) s.heap.objs.size f cdv))) : PDb (tb K w) (cxOf (L2.CX P w) P w (tb K w).K mg base N_need_among "need_among" (defScope s_need_among) f cdv A outer s H E) (defBody s_need_among) (g_need_among) :=
  (b_one (s_if (t_not (t_val (d_call c_is_among (a_cons (d_var 0) (a_cons (d_var 1) (a_cons (d_var 2) a_nil))) hr (by omega)))) (b_one (s_raise 8 Tx.xt Tx.c_BadNumber)) b_nil))
end
/-! ### need_room -/
abbrev N_need_room : List Str := ["kept", "most"]
def g_need_room : DS :=
  (sIf (tst (dOp oGe (dBi bLenA (aCons (dVar 0) aNil)) (dVar 1))) (sRaise 1) sPass)
def f_need_room : List D → Sto → Res D := mkF 2 2 g_need_room
theorem sc_need_room : FnScope N_need_room ["kept", "most"] (defScope s_need_room) := ⟨rfl, rfl, rfl, by decide +kernel, rfl, by decide +kernel, by decide +kernel⟩
section
variable {P : Program} {w : World} {K : PySem.W.Frag} {mg : Str → Option Value} {base : Heap}
theorem b_need_room (Tx : Txt K mg)  {f : Addr} (cdv : Value) (A : Around) (outer : List PySem.Env) (s : Shared) (H : Hp) (E : XK) (hr : Room 0 (A.deeper (PyProof.Rows.envOfC "need_room" (defScope s_need_room) s.heap.objs.size f cdv))) : PDb (tb K w) (cxOf (L2.CX P w) P w (tb K w).K mg base N_need_room "need_room" (defScope s_need_room) f cdv A outer s H E) (defBody s_need_room) (g_need_room) :=
  (b_one (s_if (t_cmp (fun _ _ => op_ge) do_cmp (d_callB (fun _ _ => call_lenA) db_lenA Tx.f_len PySem.boot_len (a_cons (d_var 0) a_nil)) (d_var 1) (nomark _)) (b_one (s_raise 1 Tx.xt Tx.c_TooMany)) b_nil))
end
/-! ### are_zones -/
abbrev N_are_zones : List Str := ["thing", "zone", "one", "other"]
def g_are_zones : DS :=
  (sSeq (sIf (tOrD (tNotD (tst (dBi (bIsO parT parA csT) (aCons (dVar 0) (aCons (dC (.ty "list")) aNil))))) (tNotD (tst (dChain oLe oLe (dC (.int 1)) (dBi bLen (aCons (dVar 0) aNil)) (dC (.int 6)))))) (sRet (dC (.bl false))) sPass)
    (sSeq (sIf (tNotD (tst (dBi bAll (aCons (dLc (itAny (dVar 0)) (tgN 1) cYes (dCall f_is_among (aCons (dVar 1) (aCons (dC (.int 1)) (aCons (dC (.int 6)) aNil)))) [1]) aNil)))) (sRet (dC (.bl false))) sPass)
    (sRet (dBi bAll (aCons (dLc (itZip (aCons (dVar 0) (aCons (dSl (dVar 0) (pSome (dC (.int 1))) pNone) aNil))) (tgT [(tgN 2), (tgN 3)]) cYes (dOp oLt (dVar 2) (dVar 3)) [2, 3]) aNil)))))
def f_are_zones : List D → Sto → Res D := mkF 4 1 g_are_zones
theorem sc_are_zones : FnScope N_are_zones ["thing"] (defScope s_are_zones) := ⟨rfl, rfl, rfl, by decide +kernel, rfl, by decide +kernel, by decide +kernel⟩
section
variable {P : Program} {w : World} {K : PySem.W.Frag} {mg : Str → Option Value} {base : Heap}
theorem b_are_zones (Tx : Txt K mg) (c_is_among : Cl (tb K w) P w mg base "is_among" 1 3 f_is_among) {f : Addr} (cdv : Value) (A : Around) (outer : List PySem.Env) (s : Shared) (H : Hp) (E : XK) (hr : Room 1 (A.deeper (PyProof.Rows.envOfC "are_zones" (defScope s_are_zones) s.heap.objs.size f cdv))) : PDb (tb K w) (cxOf (L2.CX P w) P w (tb K w).K mg base N_are_zones "are_zones" (defScope s_are_zones) f cdv A outer s H E) (defBody s_are_zones) (g_are_zones) :=
  (b_cons (s_if (PDw.t (w_or (t_not (t_val (d_callB (fun _ _ => call_isA) (db_isO Tx.xt Tx.ob Tx.ki) Tx.f_isinstance (by decide +kernel) (a_cons (d_var 0) (a_cons (d_ty "list" Tx.f_list (by decide +kernel)) a_nil))))) (w_or1 (t_not (t_chain (fun _ _ => op_le) (fun _ _ => op_le) do_cmp do_cmp d_int (d_callB (fun _ _ => call_len) db_len Tx.f_len (by decide +kernel) (a_cons (d_var 0) a_nil)) (d_glob (d := .int 6) (v := .int 6) (fun _ _ => by unfold Rp; rfl) Tx.k_MOST_ZONE)))))) (b_one (s_ret d_bl)) b_nil)
    (b_cons (s_if (t_not (t_val (d_callB (fun _ _ => cr_all rfl) db_all Tx.f_all (by decide +kernel) (a_cons (d_lc (own := [("zone", 1)]) sc_are_zones.nd (i_any (d_var 0)) (blkOk_by (sc := defScope s_are_zones) (N := N_are_zones) (by decide +kernel)) (fun _ _ _ _ _ => (g_name 1 sc_are_zones.nd)) (fun _ _ _ _ _ => ts_nil) (fun _ _ _ _ _ => (d_call c_is_among (a_cons (d_var 1) (a_cons d_int (a_cons (d_glob (d := .int 6) (v := .int 6) (fun _ _ => by unfold Rp; rfl) Tx.k_MOST_ZONE) a_nil))) hr (by omega)))) a_nil)))) (b_one (s_ret d_bl)) b_nil)
    (b_one (s_ret (d_callB (fun _ _ => cr_all rfl) db_all Tx.f_all (by decide +kernel) (a_cons (d_lc (own := [("one", 2), ("other", 3)]) sc_are_zones.nd (i_zip Tx.f_zip (a_cons (d_var 0) (a_cons (d_sl (d_var 0) (o_some d_int) o_none) a_nil))) (blkOk_by (sc := defScope s_are_zones) (N := N_are_zones) (by decide +kernel)) (fun _ _ _ _ _ => (g_tup (gs_cons (g_name 2 sc_are_zones.nd) (gs_cons (g_name 3 sc_are_zones.nd) gs_nil)))) (fun _ _ _ _ _ => ts_nil) (fun _ _ _ _ _ => (d_cmp (fun _ _ => op_lt) do_cmp (d_var 2) (d_var 3) (nomark _)))) a_nil))))))
end
/-! ### Net.__init__ -/
abbrev N_Net___init__ : List Str := ["self"]
def g_Net___init__ : DS :=
  (sSeq (sFldS csT 5 0 dDctC (dVar 0))
    (sSeq (sFldS csT 5 1 (dLstC aNil) (dVar 0))
    (sSeq (sFldS csT 5 2 dDctC (dVar 0))
    (sSeq (sFldS csT 5 3 dDctC (dVar 0))
    (sFldS csT 5 4 dDctC (dVar 0))))))
def f_Net___init__ : List D → Sto → Res D := mkF 1 1 g_Net___init__
theorem sc_Net___init__ : FnScope N_Net___init__ ["self"] (defScope s_Net___init__) := ⟨rfl, rfl, rfl, by decide +kernel, rfl, by decide +kernel, by decide +kernel⟩
section
variable {P : Program} {w : World} {K : PySem.W.Frag} {mg : Str → Option Value} {base : Heap}
theorem b_Net___init__ (Tx : Txt K mg)  {f : Addr} (cdv : Value) (A : Around) (outer : List PySem.Env) (s : Shared) (H : Hp) (E : XK) (hr : Room 0 (A.deeper (PyProof.Rows.envOfC "Net.__init__" (defScope s_Net___init__) s.heap.objs.size f cdv))) : PDb (tb K w) (cxOf (L2.CX P w) P w (tb K w).K mg base N_Net___init__ "Net.__init__" (defScope s_Net___init__) f cdv A outer s H E) (defBody s_Net___init__) (g_Net___init__) :=
  (b_cons (s_fld 0 Tx.ob d_dctC (d_var 0))
    (b_cons (s_fld 1 Tx.ob (d_lstC a_nil) (d_var 0))
    (b_cons (s_fld 2 Tx.ob d_dctC (d_var 0))
    (b_cons (s_fld 3 Tx.ob d_dctC (d_var 0))
    (b_one (s_fld 4 Tx.ob d_dctC (d_var 0)))))))
end
/-! ### Net.add_ticket -/
abbrev N_Net_add_ticket : List Str := ["self", "name", "price", "lasts", "zones"]
def g_Net_add_ticket : DS :=
  (sSeq (sDrop (dCall f_need_fresh (aCons (dVar 1) (aCons (dFld csT 5 3 (dVar 0)) aNil))))
    (sSeq (sDrop (dCall f_need_among (aCons (dVar 2) (aCons (dC (.int 0)) (aCons (dC (.int 10000)) aNil)))))
    (sSeq (sDrop (dCall f_need_among (aCons (dVar 3) (aCons (dC (.int 1)) (aCons (dC (.int 1440)) aNil)))))
    (sSeq (sIf (tNotD (tst (dCall f_are_zones (aCons (dVar 4) aNil)))) (sRaise 8) sPass)
    (sSeq (sDrop (dCall f_need_room (aCons (dFld csT 5 3 (dVar 0)) (aCons (dC (.int 3)) aNil))))
    (sDput (dTup (aCons (dVar 2) (aCons (dVar 3) (aCons (dBi bTuple (aCons (dVar 4) aNil)) aNil)))) (dFld csT 5 3 (dVar 0)) (dVar 1)))))))
def f_Net_add_ticket : List D → Sto → Res D := mkF 5 5 g_Net_add_ticket
theorem sc_Net_add_ticket : FnScope N_Net_add_ticket ["self", "name", "price", "lasts", "zones"] (defScope s_Net_add_ticket) := ⟨rfl, rfl, rfl, by decide +kernel, rfl, by decide +kernel, by decide +kernel⟩
section
variable {P : Program} {w : World} {K : PySem.W.Frag} {mg : Str → Option Value} {base : Heap}
theorem b_Net_add_ticket (Tx : Txt K mg) (c_need_fresh : Cl (tb K w) P w mg base "need_fresh" 2 2 f_need_fresh) (c_need_among : Cl (tb K w) P w mg base "need_among" 2 3 f_need_among) (c_are_zones : Cl (tb K w) P w mg base "are_zones" 2 1 f_are_zones) (c_need_room : Cl (tb K w) P w mg base "need_room" 1 2 f_need_room) {f : Addr} (cdv : Value) (A : Around) (outer : List PySem.Env) (s : Shared) (H : Hp) (E : XK) (hr : Room 2 (A.deeper (PyProof.Rows.envOfC "Net.add_ticket" (defScope s_Net_add_ticket) s.heap.objs.size f cdv))) : PDb (tb K w) (cxOf (L2.CX P w) P w (tb K w).K mg base N_Net_add_ticket "Net.add_ticket" (defScope s_Net_add_ticket) f cdv A outer s H E) (defBody s_Net_add_ticket) (g_Net_add_ticket) :=
  (b_cons (s_expr (d_call c_need_fresh (a_cons (d_var 1) (a_cons (d_fld 3 Tx.ob (d_var 0)) a_nil)) hr (by omega)))
    (b_cons (s_expr (d_call c_need_among (a_cons (d_var 2) (a_cons d_int (a_cons d_int a_nil))) hr (by omega)))
    (b_cons (s_expr (d_call c_need_among (a_cons (d_var 3) (a_cons d_int (a_cons d_int a_nil))) hr (by omega)))
    (b_cons (s_if (t_not (t_val (d_call c_are_zones (a_cons (d_var 4) a_nil) hr (by omega)))) (b_one (s_raise 8 Tx.xt Tx.c_BadNumber)) b_nil)
    (b_cons (s_expr (d_call c_need_room (a_cons (d_fld 3 Tx.ob (d_var 0)) (a_cons (d_glob (d := .int 3) (v := .int 3) (fun _ _ => by unfold Rp; rfl) Tx.k_MOST_TICKETS) a_nil)) hr (by omega)))
    (b_one (s_dput (d_tup (a_cons (d_var 2) (a_cons (d_var 3) (a_cons (d_callT (fun _ _ => call_tuple_of) db_tuple Tx.f_tuple (by decide +kernel) (a_cons (d_var 4) a_nil)) a_nil)))) (d_fld 3 Tx.ob (d_var 0)) (d_var 1) (hu_of hr.units))))))))
end
/-! ### _law_draw -/
abbrev N__law_draw : List Str := ["_law_script", "_law_k", "_law_cell", "_law_number"]
def g__law_draw : DS :=
  (sSeq (sSet 2 (dC (.int 0)))
    (sSeq (sIf (tst (dOp oNe (dVar 0) (dLst aNil))) (sSet 2 (dOp oIx (dVar 0) (dOp oMod (dVar 1) (dBi bLen (aCons (dVar 0) aNil))))) sPass)
    (sSeq (sSet 3 (dOp oAdd (dOp oAdd (dOp oMod (dVar 2) (dC (.int 1000000007))) (dOp oMulA (dC (.int 7919)) (dVar 1))) (dC (.int 13))))
    (sRet (dOp oDiv (dOp oMod (dOp oMulA (dOp oMod (dOp oMulA (dVar 3) (dVar 3)) (dC (.int 1000000007))) (dVar 3)) (dC (.int 998244353))) (dC (.int 11)))))))
def f__law_draw : List D → Sto → Res D := mkF 4 2 g__law_draw
theorem sc__law_draw : FnScope N__law_draw ["_law_script", "_law_k"] (defScope s__law_draw) := ⟨rfl, rfl, rfl, by decide +kernel, rfl, by decide +kernel, by decide +kernel⟩
section
variable {P : Program} {w : World} {K : PySem.W.Frag} {mg : Str → Option Value} {base : Heap}
theorem b__law_draw (Tx : Txt K mg)  {f : Addr} (cdv : Value) (A : Around) (outer : List PySem.Env) (s : Shared) (H : Hp) (E : XK) (hr : Room 0 (A.deeper (PyProof.Rows.envOfC "_law_draw" (defScope s__law_draw) s.heap.objs.size f cdv))) : PDb (tb K w) (cxOf (L2.CX P w) P w (tb K w).K mg base N__law_draw "_law_draw" (defScope s__law_draw) f cdv A outer s H E) (defBody s__law_draw) (g__law_draw) :=
  (b_cons (s_set 2 sc__law_draw.nd d_int)
    (b_cons (s_if (t_cmp (fun _ _ => op_neA hr.units) do_ne (d_var 0) (d_lst a_nil) (nomark _)) (b_one (s_set 2 sc__law_draw.nd (d_ix (d_var 0) (d_op (fun _ _ => op_mod) do_mod (d_var 1) (d_callB (fun _ _ => call_len) db_len Tx.f_len (by decide +kernel) (a_cons (d_var 0) a_nil)))))) b_nil)
    (b_cons (s_set 3 sc__law_draw.nd (d_op (fun _ _ => op_addA) do_add (d_op (fun _ _ => op_addA) do_add (d_op (fun _ _ => op_mod) do_mod (d_var 2) d_int) (d_op (fun _ _ => op_mulA) do_mulA d_int (d_var 1))) d_int))
    (b_one (s_ret (d_op (fun _ _ => op_fdiv) do_div (d_op (fun _ _ => op_mod) do_mod (d_op (fun _ _ => op_mulA) do_mulA (d_op (fun _ _ => op_mod) do_mod (d_op (fun _ _ => op_mulA) do_mulA (d_var 3) (d_var 3)) d_int) (d_var 3)) d_int) d_int))))))
end
/-! ### _law_whole -/
abbrev N__law_whole : List Str := ["_law_found"]
def g__law_whole : DS :=
  (sRet (dAndV (dBi (bIsO parT parA csT) (aCons (dVar 0) (aCons (dC (.ty "int")) aNil))) (dNotV (dBi (bIsO parT parA csT) (aCons (dVar 0) (aCons (dC (.ty "bool")) aNil))))))
def f__law_whole : List D → Sto → Res D := mkF 1 1 g__law_whole
theorem sc__law_whole : FnScope N__law_whole ["_law_found"] (defScope s__law_whole) := ⟨rfl, rfl, rfl, by decide +kernel, rfl, by decide +kernel, by decide +kernel⟩
section
variable {P : Program} {w : World} {K : PySem.W.Frag} {mg : Str → Option Value} {base : Heap}
theorem b__law_whole (Tx : Txt K mg)  {f : Addr} (cdv : Value) (A : Around) (outer : List PySem.Env) (s : Shared) (H : Hp) (E : XK) (hr : Room 0 (A.deeper (PyProof.Rows.envOfC "_law_whole" (defScope s__law_whole) s.heap.objs.size f cdv))) : PDb (tb K w) (cxOf (L2.CX P w) P w (tb K w).K mg base N__law_whole "_law_whole" (defScope s__law_whole) f cdv A outer s H E) (defBody s__law_whole) (g__law_whole) :=
  (b_one (s_ret (d_and (d_callB (fun _ _ => call_isA) (db_isO Tx.xt Tx.ob Tx.ki) Tx.f_isinstance (by decide +kernel) (a_cons (d_var 0) (a_cons (d_ty "int" Tx.f_int (by decide +kernel)) a_nil))) (d_one (d_not (d_callB (fun _ _ => call_isA) (db_isO Tx.xt Tx.ob Tx.ki) Tx.f_isinstance (by decide +kernel) (a_cons (d_var 0) (a_cons (d_ty "bool" Tx.f_bool (by decide +kernel)) a_nil))))))))
end
/-! ### _law_names -/
abbrev N__law_names : List Str := ["_law_script", "_law_k", "_law_many", "_law_letters", "_law_number", "_law_row", "_law_size", "_law_at", "_law_rest", "_law_j"]
def g__law_names : DS :=
  (sSeq (sSet 3 (dC (.str [97, 98, 99, 100, 101, 102, 103, 104, 105, 106, 107, 108, 109, 110, 111, 112, 113, 114, 115, 116, 117, 118, 119, 120, 121, 122])))
    (sSeq (sSet 4 (dCall f__law_draw (aCons (dVar 0) (aCons (dVar 1) aNil))))
    (sSeq (sIf (tst (dOp oEq (dOp oMod (dVar 4) (dC (.int 3))) (dC (.int 1)))) (sSeq (sSet 5 (dMt "str" mJoin (dC (.str [])) (aCons (dLc (itR1 (aCons (dC (.int 8)) aNil)) (tgN 9) cYes (dOp oIx (dVar 3) (dOp oMod (dOp oAdd (dOp oDiv (dVar 4) (dC (.int 3))) (dOp oMulA (dC (.int 5)) (dVar 9))) (dC (.int 26)))) [9]) aNil)))
    (sRet (dLc (itR1 (aCons (dVar 2) aNil)) (tgN 9) cYes (dSl (dVar 5) pNone (pSome (dOp oAdd (dC (.int 1)) (dVar 9)))) [9]))) sPass)
    (sSeq (sSet 6 (dOp oMod (dOp oDiv (dVar 4) (dC (.int 3))) (dC (.int 8))))
    (sSeq (sSet 7 (dOp oMod (dOp oDiv (dVar 4) (dC (.int 24))) (dOp oAdd (dVar 6) (dC (.int 1)))))
    (sSeq (sSet 8 (dMt "str" mJoin (dC (.str [])) (aCons (dLc (itR1 (aCons (dVar 6) aNil)) (tgN 9) cYes (dOp oIx (dVar 3) (dOp oMod (dOp oAdd (dOp oDiv (dVar 4) (dC (.int 216))) (dOp oMulA (dC (.int 7)) (dVar 9))) (dC (.int 26)))) [9]) aNil)))
    (sRet (dLc (itR1 (aCons (dVar 2) aNil)) (tgN 9) cYes (dOp oAdd (dOp oAdd (dSl (dVar 8) pNone (pSome (dVar 7))) (dOp oIx (dVar 3) (dOp oMod (dOp oAdd (dOp oDiv (dVar 4) (dC (.int 5616))) (dVar 9)) (dC (.int 26))))) (dSl (dVar 8) (pSome (dVar 7)) pNone)) [9]))))))))
def f__law_names : List D → Sto → Res D := mkF 10 3 g__law_names
theorem sc__law_names : FnScope N__law_names ["_law_script", "_law_k", "_law_many"] (defScope s__law_names) := ⟨rfl, rfl, rfl, by decide +kernel, rfl, by decide +kernel, by decide +kernel⟩
section
variable {P : Program} {w : World} {K : PySem.W.Frag} {mg : Str → Option Value} {base : Heap}
theorem b__law_names (Tx : Txt K mg) (c__law_draw : Cl (tb K w) P w mg base "_law_draw" 1 2 f__law_draw) {f : Addr} (cdv : Value) (A : Around) (outer : List PySem.Env) (s : Shared) (H : Hp) (E : XK) (hr : Room 1 (A.deeper (PyProof.Rows.envOfC "_law_names" (defScope s__law_names) s.heap.objs.size f cdv))) : PDb (tb K w) (cxOf (L2.CX P w) P w (tb K w).K mg base N__law_names "_law_names" (defScope s__law_names) f cdv A outer s H E) (defBody s__law_names) (g__law_names) :=
  (b_cons (s_set 3 sc__law_names.nd (d_str [97, 98, 99, 100, 101, 102, 103, 104, 105, 106, 107, 108, 109, 110, 111, 112, 113, 114, 115, 116, 117, 118, 119, 120, 121, 122] (by decide +kernel)))
    (b_cons (s_set 4 sc__law_names.nd (d_call c__law_draw (a_cons (d_var 0) (a_cons (d_var 1) a_nil)) hr (by omega)))
    (b_cons (s_if (t_cmp (fun _ _ => op_eqA hr.units) do_eq (d_op (fun _ _ => op_mod) do_mod (d_var 4) d_int) d_int (nomark _)) (b_cons (s_set 5 sc__law_names.nd (d_mt PySem.F.plainAttrs_str PySem.F.slot_str_join PySem.F.type_str_join (fun _ _ => mt_join) dm_join (d_str [] (by decide +kernel)) (a_cons (d_lc (own := [("_law_j", 9)]) sc__law_names.nd (i_range1 Tx.f_range (a_cons d_int a_nil)) (blkOk_by (sc := defScope s__law_names) (N := N__law_names) (by decide +kernel)) (fun _ _ _ _ _ => (g_name 9 sc__law_names.nd)) (fun _ _ _ _ _ => ts_nil) (fun _ _ _ _ _ => (d_ix (d_var 3) (d_op (fun _ _ => op_mod) do_mod (d_op (fun _ _ => op_addA) do_add (d_op (fun _ _ => op_fdiv) do_div (d_var 4) d_int) (d_op (fun _ _ => op_mulA) do_mulA d_int (d_var 9))) d_int)))) a_nil)))
    (b_one (s_ret (d_lc (own := [("_law_j", 9)]) sc__law_names.nd (i_range1 Tx.f_range (a_cons (d_var 2) a_nil)) (blkOk_by (sc := defScope s__law_names) (N := N__law_names) (by decide +kernel)) (fun _ _ _ _ _ => (g_name 9 sc__law_names.nd)) (fun _ _ _ _ _ => ts_nil) (fun _ _ _ _ _ => (d_sl (d_var 5) o_none (o_some (d_op (fun _ _ => op_addA) do_add d_int (d_var 9))))))))) b_nil)
    (b_cons (s_set 6 sc__law_names.nd (d_op (fun _ _ => op_mod) do_mod (d_op (fun _ _ => op_fdiv) do_div (d_var 4) d_int) d_int))
    (b_cons (s_set 7 sc__law_names.nd (d_op (fun _ _ => op_mod) do_mod (d_op (fun _ _ => op_fdiv) do_div (d_var 4) d_int) (d_op (fun _ _ => op_addA) do_add (d_var 6) d_int)))
    (b_cons (s_set 8 sc__law_names.nd (d_mt PySem.F.plainAttrs_str PySem.F.slot_str_join PySem.F.type_str_join (fun _ _ => mt_join) dm_join (d_str [] (by decide +kernel)) (a_cons (d_lc (own := [("_law_j", 9)]) sc__law_names.nd (i_range1 Tx.f_range (a_cons (d_var 6) a_nil)) (blkOk_by (sc := defScope s__law_names) (N := N__law_names) (by decide +kernel)) (fun _ _ _ _ _ => (g_name 9 sc__law_names.nd)) (fun _ _ _ _ _ => ts_nil) (fun _ _ _ _ _ => (d_ix (d_var 3) (d_op (fun _ _ => op_mod) do_mod (d_op (fun _ _ => op_addA) do_add (d_op (fun _ _ => op_fdiv) do_div (d_var 4) d_int) (d_op (fun _ _ => op_mulA) do_mulA d_int (d_var 9))) d_int)))) a_nil)))
    (b_one (s_ret (d_lc (own := [("_law_j", 9)]) sc__law_names.nd (i_range1 Tx.f_range (a_cons (d_var 2) a_nil)) (blkOk_by (sc := defScope s__law_names) (N := N__law_names) (by decide +kernel)) (fun _ _ _ _ _ => (g_name 9 sc__law_names.nd)) (fun _ _ _ _ _ => ts_nil) (fun _ _ _ _ _ => (d_op (fun _ _ => op_addA) do_add (d_op (fun _ _ => op_addA) do_add (d_sl (d_var 8) o_none (o_some (d_var 7))) (d_ix (d_var 3) (d_op (fun _ _ => op_mod) do_mod (d_op (fun _ _ => op_addA) do_add (d_op (fun _ _ => op_fdiv) do_div (d_var 4) d_int) (d_var 9)) d_int))) (d_sl (d_var 8) (o_some (d_var 7)) o_none))))))))))))
end
/-! ### _law_zones -/
abbrev N__law_zones : List Str := ["_law_bits", "_law_zone"]
def g__law_zones : DS :=
  (sRet (dLc (itR2 (aCons (dC (.int 1)) (aCons (dC (.int 7)) aNil))) (tgN 1) (tst (dOp oEq (dOp oMod (dOp oDiv (dVar 0) (dOp oIx (dLst (aCons (dC (.int 1)) (aCons (dC (.int 2)) (aCons (dC (.int 4)) (aCons (dC (.int 8)) (aCons (dC (.int 16)) (aCons (dC (.int 32)) aNil))))))) (dOp oSub (dVar 1) (dC (.int 1))))) (dC (.int 2))) (dC (.int 1)))) (dVar 1) [1]))
def f__law_zones : List D → Sto → Res D := mkF 2 1 g__law_zones
theorem sc__law_zones : FnScope N__law_zones ["_law_bits"] (defScope s__law_zones) := ⟨rfl, rfl, rfl, by decide +kernel, rfl, by decide +kernel, by decide +kernel⟩
section
variable {P : Program} {w : World} {K : PySem.W.Frag} {mg : Str → Option Value} {base : Heap}
theorem b__law_zones (Tx : Txt K mg)  {f : Addr} (cdv : Value) (A : Around) (outer : List PySem.Env) (s : Shared) (H : Hp) (E : XK) (hr : Room 0 (A.deeper (PyProof.Rows.envOfC "_law_zones" (defScope s__law_zones) s.heap.objs.size f cdv))) : PDb (tb K w) (cxOf (L2.CX P w) P w (tb K w).K mg base N__law_zones "_law_zones" (defScope s__law_zones) f cdv A outer s H E) (defBody s__law_zones) (g__law_zones) :=
  (b_one (s_ret (d_lc (own := [("_law_zone", 1)]) sc__law_zones.nd (i_range2 Tx.f_range (a_cons d_int (a_cons d_int a_nil))) (blkOk_by (sc := defScope s__law_zones) (N := N__law_zones) (by decide +kernel)) (fun _ _ _ _ _ => (g_name 1 sc__law_zones.nd)) (fun _ _ _ _ _ => ts_one (t_cmp (fun _ _ => op_eqA hr.units) do_eq (d_op (fun _ _ => op_mod) do_mod (d_op (fun _ _ => op_fdiv) do_div (d_var 0) (d_ix (d_lst (a_cons d_int (a_cons d_int (a_cons d_int (a_cons d_int (a_cons d_int (a_cons d_int a_nil))))))) (d_op (fun _ _ => op_sub) do_sub (d_var 1) d_int))) d_int) d_int (nomark _))) (fun _ _ _ _ _ => (d_var 1)))))
end
/-! ### _law_tickets -/
abbrev N__law_tickets : List Str := ["_law_script", "_law_k", "_law_many", "_law_found", "_law_j", "_law_name", "_law_number", "_law_price", "_law_lasts", "_law_bits"]
def g__law_tickets_b1 : DS :=
  (sSeq (sSet 6 (dCall f__law_draw (aCons (dVar 0) (aCons (dOp oAdd (dOp oAdd (dVar 1) (dC (.int 1))) (dVar 4)) aNil))))
    (sSeq (sSet 7 (dOp oMod (dVar 6) (dOp oIx (dLst (aCons (dC (.int 4)) (aCons (dC (.int 101)) (aCons (dC (.int 101)) (aCons (dC (.int 10001)) aNil))))) (dOp oMod (dOp oDiv (dVar 6) (dC (.int 16))) (dC (.int 4))))))
    (sSeq (sSet 8 (dOp oAdd (dC (.int 1)) (dOp oMod (dOp oDiv (dVar 6) (dC (.int 64))) (dOp oIx (dLst (aCons (dC (.int 60)) (aCons (dC (.int 240)) (aCons (dC (.int 1440)) aNil)))) (dOp oMod (dOp oDiv (dVar 6) (dC (.int 4096))) (dC (.int 3)))))))
    (sSeq (sSet 9 (dOp oIx (dLst (aCons (dC (.int 63)) (aCons (dOp oAdd (dC (.int 1)) (dOp oMod (dOp oDiv (dVar 6) (dC (.int 1024))) (dC (.int 63)))) aNil))) (dOp oMod (dOp oDiv (dVar 6) (dC (.int 512))) (dC (.int 2)))))
    (sDrop (dMt "list" mAppend (dVar 3) (aCons (dTup (aCons (dVar 5) (aCons (dVar 7) (aCons (dVar 8) (aCons (dCall f__law_zones (aCons (dVar 9) aNil)) aNil))))) aNil)))))))
def g__law_tickets : DS :=
  (sSeq (sSet 3 (dLstC aNil))
    (sSeq (sFor (itEnum (aCons (dCall f__law_names (aCons (dVar 0) (aCons (dVar 1) (aCons (dVar 2) aNil)))) aNil)) (tgT [(tgN 4), (tgN 5)]) g__law_tickets_b1)
    (sSeq (sFrz 3) (sRet (dVar 3)))))
def f__law_tickets : List D → Sto → Res D := mkF 10 3 g__law_tickets
theorem sc__law_tickets : FnScope N__law_tickets ["_law_script", "_law_k", "_law_many"] (defScope s__law_tickets) := ⟨rfl, rfl, rfl, by decide +kernel, rfl, by decide +kernel, by decide +kernel⟩
section
variable {P : Program} {w : World} {K : PySem.W.Frag} {mg : Str → Option Value} {base : Heap}
theorem b__law_tickets (Tx : Txt K mg) (c__law_names : Cl (tb K w) P w mg base "_law_names" 2 3 f__law_names) (c__law_draw : Cl (tb K w) P w mg base "_law_draw" 1 2 f__law_draw) (c__law_zones : Cl (tb K w) P w mg base "_law_zones" 1 1 f__law_zones) {f : Addr} (cdv : Value) (A : Around) (outer : List PySem.Env) (s : Shared) (H : Hp) (E : XK) (hr : Room 2 (A.deeper (PyProof.Rows.envOfC "_law_tickets" (defScope s__law_tickets) s.heap.objs.size f cdv))) : PDb (tb K w) (cxOf (L2.CX P w) P w (tb K w).K mg base N__law_tickets "_law_tickets" (defScope s__law_tickets) f cdv A outer s H E) (defBody s__law_tickets) (g__law_tickets) :=
  (b_cons (s_set 3 sc__law_tickets.nd (d_lstC a_nil))
    (b_cons (s_for (i_enum Tx.f_enumerate (a_cons (d_call c__law_names (a_cons (d_var 0) (a_cons (d_var 1) (a_cons (d_var 2) a_nil))) hr (by omega)) a_nil)) (g_tup (gs_cons (g_name 4 sc__law_tickets.nd) (gs_cons (g_name 5 sc__law_tickets.nd) gs_nil))) (b_cons (s_set 6 sc__law_tickets.nd (d_call c__law_draw (a_cons (d_var 0) (a_cons (d_op (fun _ _ => op_addA) do_add (d_op (fun _ _ => op_addA) do_add (d_var 1) d_int) (d_var 4)) a_nil)) hr (by omega)))
    (b_cons (s_set 7 sc__law_tickets.nd (d_op (fun _ _ => op_mod) do_mod (d_var 6) (d_ix (d_lst (a_cons d_int (a_cons d_int (a_cons d_int (a_cons d_int a_nil))))) (d_op (fun _ _ => op_mod) do_mod (d_op (fun _ _ => op_fdiv) do_div (d_var 6) d_int) d_int))))
    (b_cons (s_set 8 sc__law_tickets.nd (d_op (fun _ _ => op_addA) do_add d_int (d_op (fun _ _ => op_mod) do_mod (d_op (fun _ _ => op_fdiv) do_div (d_var 6) d_int) (d_ix (d_lst (a_cons d_int (a_cons d_int (a_cons d_int a_nil)))) (d_op (fun _ _ => op_mod) do_mod (d_op (fun _ _ => op_fdiv) do_div (d_var 6) d_int) d_int)))))
    (b_cons (s_set 9 sc__law_tickets.nd (d_ix (d_lst (a_cons d_int (a_cons (d_op (fun _ _ => op_addA) do_add d_int (d_op (fun _ _ => op_mod) do_mod (d_op (fun _ _ => op_fdiv) do_div (d_var 6) d_int) d_int)) a_nil))) (d_op (fun _ _ => op_mod) do_mod (d_op (fun _ _ => op_fdiv) do_div (d_var 6) d_int) d_int)))
    (b_one (s_expr (d_mt PySem.F.plainAttrs_list PySem.F.slot_list_append PySem.F.type_list_append (fun _ _ => mt_append) dm_append (d_var 3) (a_cons (d_tup (a_cons (d_var 5) (a_cons (d_var 7) (a_cons (d_var 8) (a_cons (d_call c__law_zones (a_cons (d_var 9) a_nil) hr (by omega)) a_nil))))) a_nil)))))))))
    (b_frz 3 (b_one (s_ret (d_var 3))))))
end
/-! ### _law_net -/
abbrev N__law_net : List Str := ["_law_tickets_here", "_law_net_here", "_law_name", "_law_price", "_law_lasts", "_law_zones_here"]
def g__law_net_b1 : DS :=
  (sDrop (dMeth 5 [(9, f_Net_add_ticket)] (dVar 1) (aCons (dVar 2) (aCons (dVar 3) (aCons (dVar 4) (aCons (dBi bList (aCons (dVar 5) aNil)) aNil))))))
def g__law_net : DS :=
  (sSeq (sSet 1 (dCall (mkO 9 f_Net___init__) aNil))
    (sSeq (sFor (itAny (dVar 0)) (tgT [(tgN 2), (tgN 3), (tgN 4), (tgN 5)]) g__law_net_b1)
    (sRet (dVar 1))))
def f__law_net : List D → Sto → Res D := mkF 6 1 g__law_net
theorem sc__law_net : FnScope N__law_net ["_law_tickets_here"] (defScope s__law_net) := ⟨rfl, rfl, rfl, by decide +kernel, rfl, by decide +kernel, by decide +kernel⟩
section
variable {P : Program} {w : World} {K : PySem.W.Frag} {mg : Str → Option Value} {base : Heap}
theorem b__law_net (Tx : Txt K mg) (m_Net_add_ticket : Mc (tb K w) P w mg base 9 "add_ticket" 3 5 f_Net_add_ticket) (k_Net : Mkc (tb K w) P w mg base 9 "Net" 1 1 f_Net___init__) {f : Addr} (cdv : Value) (A : Around) (outer : List PySem.Env) (s : Shared) (H : Hp) (E : XK) (hr : Room 3 (A.deeper (PyProof.Rows.envOfC "_law_net" (defScope s__law_net) s.heap.objs.size f cdv))) : PDb (tb K w) (cxOf (L2.CX P w) P w (tb K w).K mg base N__law_net "_law_net" (defScope s__law_net) f cdv A outer s H E) (defBody s__law_net) (g__law_net) :=
  (b_cons (s_set 1 sc__law_net.nd (d_make0 k_Net hr (by omega)))
    (b_cons (s_for (i_any (d_var 0)) (g_tup (gs_cons (g_name 2 sc__law_net.nd) (gs_cons (g_name 3 sc__law_net.nd) (gs_cons (g_name 4 sc__law_net.nd) (gs_cons (g_name 5 sc__law_net.nd) gs_nil))))) (b_one (s_expr (d_meth (nF := 5) (j := 3) (tbl := [(9, f_Net_add_ticket)]) ⟨⟨m_Net_add_ticket.up (by omega), rfl⟩, trivial⟩ nm_add_ticket (d_var 1) (a_cons (d_var 2) (a_cons (d_var 3) (a_cons (d_var 4) (a_cons (d_callT (fun _ _ => call_list_of) db_list Tx.f_list (by decide +kernel) (a_cons (d_var 5) a_nil)) a_nil)))) hr))))
    (b_one (s_ret (d_var 1)))))
end
/-! ### _law_rides -/
abbrev N__law_rides : List Str := ["_law_script", "_law_k", "_law_many", "_law_found", "_law_moment", "_law_j", "_law_number", "_law_bits"]
def g__law_rides_b1 : DS :=
  (sSeq (sSet 6 (dCall f__law_draw (aCons (dVar 0) (aCons (dOp oAdd (dOp oAdd (dVar 1) (dC (.int 1))) (dVar 5)) aNil))))
    (sSeq (sSet 4 (dOp oAdd (dVar 4) (dOp oMod (dVar 6) (dOp oIx (dLst (aCons (dC (.int 1)) (aCons (dC (.int 30)) (aCons (dC (.int 200)) (aCons (dC (.int 700)) aNil))))) (dOp oMod (dOp oDiv (dVar 6) (dC (.int 1024))) (dC (.int 4)))))))
    (sSeq (sSet 7 (dOp oIx (dLst (aCons (dOp oAdd (dC (.int 1)) (dOp oMod (dOp oDiv (dVar 6) (dC (.int 4096))) (dC (.int 63)))) (aCons (dOp oIx (dLst (aCons (dC (.int 1)) (aCons (dC (.int 2)) (aCons (dC (.int 4)) (aCons (dC (.int 8)) (aCons (dC (.int 16)) (aCons (dC (.int 32)) aNil))))))) (dOp oMod (dOp oDiv (dVar 6) (dC (.int 4096))) (dC (.int 6)))) (aCons (dC (.int 3)) aNil)))) (dOp oMod (dOp oDiv (dVar 6) (dC (.int 64))) (dC (.int 3)))))
    (sDrop (dMt "list" mAppend (dVar 3) (aCons (dTup (aCons (dVar 7) (aCons (dVar 4) aNil))) aNil))))))
def g__law_rides : DS :=
  (sSeq (sSet 3 (dLstC aNil))
    (sSeq (sSet 4 (dOp oMod (dCall f__law_draw (aCons (dVar 0) (aCons (dVar 1) aNil))) (dC (.int 14000000))))
    (sSeq (sFor (itR1 (aCons (dVar 2) aNil)) (tgN 5) g__law_rides_b1)
    (sSeq (sFrz 3) (sRet (dVar 3))))))
def f__law_rides : List D → Sto → Res D := mkF 8 3 g__law_rides
theorem sc__law_rides : FnScope N__law_rides ["_law_script", "_law_k", "_law_many"] (defScope s__law_rides) := ⟨rfl, rfl, rfl, by decide +kernel, rfl, by decide +kernel, by decide +kernel⟩
section
variable {P : Program} {w : World} {K : PySem.W.Frag} {mg : Str → Option Value} {base : Heap}
theorem b__law_rides (Tx : Txt K mg) (c__law_draw : Cl (tb K w) P w mg base "_law_draw" 1 2 f__law_draw) {f : Addr} (cdv : Value) (A : Around) (outer : List PySem.Env) (s : Shared) (H : Hp) (E : XK) (hr : Room 1 (A.deeper (PyProof.Rows.envOfC "_law_rides" (defScope s__law_rides) s.heap.objs.size f cdv))) : PDb (tb K w) (cxOf (L2.CX P w) P w (tb K w).K mg base N__law_rides "_law_rides" (defScope s__law_rides) f cdv A outer s H E) (defBody s__law_rides) (g__law_rides) :=
  (b_cons (s_set 3 sc__law_rides.nd (d_lstC a_nil))
    (b_cons (s_set 4 sc__law_rides.nd (d_op (fun _ _ => op_mod) do_mod (d_call c__law_draw (a_cons (d_var 0) (a_cons (d_var 1) a_nil)) hr (by omega)) d_int))
    (b_cons (s_for (i_range1 Tx.f_range (a_cons (d_var 2) a_nil)) (g_name 5 sc__law_rides.nd) (b_cons (s_set 6 sc__law_rides.nd (d_call c__law_draw (a_cons (d_var 0) (a_cons (d_op (fun _ _ => op_addA) do_add (d_op (fun _ _ => op_addA) do_add (d_var 1) d_int) (d_var 5)) a_nil)) hr (by omega)))
    (b_cons (s_set 4 sc__law_rides.nd (d_op (fun _ _ => op_addA) do_add (d_var 4) (d_op (fun _ _ => op_mod) do_mod (d_var 6) (d_ix (d_lst (a_cons d_int (a_cons d_int (a_cons d_int (a_cons d_int a_nil))))) (d_op (fun _ _ => op_mod) do_mod (d_op (fun _ _ => op_fdiv) do_div (d_var 6) d_int) d_int)))))
    (b_cons (s_set 7 sc__law_rides.nd (d_ix (d_lst (a_cons (d_op (fun _ _ => op_addA) do_add d_int (d_op (fun _ _ => op_mod) do_mod (d_op (fun _ _ => op_fdiv) do_div (d_var 6) d_int) d_int)) (a_cons (d_ix (d_lst (a_cons d_int (a_cons d_int (a_cons d_int (a_cons d_int (a_cons d_int (a_cons d_int a_nil))))))) (d_op (fun _ _ => op_mod) do_mod (d_op (fun _ _ => op_fdiv) do_div (d_var 6) d_int) d_int)) (a_cons d_int a_nil)))) (d_op (fun _ _ => op_mod) do_mod (d_op (fun _ _ => op_fdiv) do_div (d_var 6) d_int) d_int)))
    (b_one (s_expr (d_mt PySem.F.plainAttrs_list PySem.F.slot_list_append PySem.F.type_list_append (fun _ _ => mt_append) dm_append (d_var 3) (a_cons (d_tup (a_cons (d_var 7) (a_cons (d_var 4) a_nil))) a_nil))))))))
    (b_frz 3 (b_one (s_ret (d_var 3)))))))
end
/-! ### _law_edged -/
abbrev N__law_edged : List Str := ["_law_script", "_law_tickets_here", "_law_rides_here", "_law_found", "_law_k", "_law_ride", "_law_number", "_law_moment", "_law_lasts"]
def g__law_edged_b1 : DS :=
  (sSeq (sSet 6 (dCall f__law_draw (aCons (dVar 0) (aCons (dOp oAdd (dC (.int 90)) (dVar 4)) aNil))))
    (sSeq (sSet 7 (dOp oIx (dVar 5) (dC (.int 1))))
    (sSeq (sIf (tAndD (tst (dOp oEq (dOp oMod (dOp oDiv (dVar 6) (dC (.int 32))) (dC (.int 2))) (dC (.int 1)))) (tst (dOp oNe (dVar 1) (dLst aNil)))) (sSeq (sSet 8 (dOp oIx (dOp oIx (dVar 1) (dOp oMod (dVar 6) (dBi bLen (aCons (dVar 1) aNil)))) (dC (.int 2))))
    (sSet 7 (dOp oSub (dOp oAdd (dOp oAdd (dOp oIx (dOp oIx (dVar 3) (dUn (fun i => -i) (dC (.int 1)))) (dC (.int 1))) (dVar 8)) (dOp oMod (dOp oDiv (dVar 6) (dC (.int 8))) (dC (.int 3)))) (dC (.int 1))))) sPass)
    (sDrop (dMt "list" mAppend (dVar 3) (aCons (dTup (aCons (dOp oIx (dVar 5) (dC (.int 0))) (aCons (dBi bMax2 (aCons (dVar 7) (aCons (dOp oIx (dOp oIx (dVar 3) (dUn (fun i => -i) (dC (.int 1)))) (dC (.int 1))) aNil))) aNil))) aNil))))))
def g__law_edged : DS :=
  (sSeq (sSet 3 (dSlC (dVar 2) pNone (pSome (dC (.int 1)))))
    (sSeq (sFor (itEnum (aCons (dSl (dVar 2) (pSome (dC (.int 1))) pNone) aNil)) (tgT [(tgN 4), (tgN 5)]) g__law_edged_b1)
    (sSeq (sFrz 3) (sRet (dVar 3)))))
def f__law_edged : List D → Sto → Res D := mkF 9 3 g__law_edged
theorem sc__law_edged : FnScope N__law_edged ["_law_script", "_law_tickets_here", "_law_rides_here"] (defScope s__law_edged) := ⟨rfl, rfl, rfl, by decide +kernel, rfl, by decide +kernel, by decide +kernel⟩
section
variable {P : Program} {w : World} {K : PySem.W.Frag} {mg : Str → Option Value} {base : Heap}
theorem b__law_edged (Tx : Txt K mg) (c__law_draw : Cl (tb K w) P w mg base "_law_draw" 1 2 f__law_draw) {f : Addr} (cdv : Value) (A : Around) (outer : List PySem.Env) (s : Shared) (H : Hp) (E : XK) (hr : Room 1 (A.deeper (PyProof.Rows.envOfC "_law_edged" (defScope s__law_edged) s.heap.objs.size f cdv))) : PDb (tb K w) (cxOf (L2.CX P w) P w (tb K w).K mg base N__law_edged "_law_edged" (defScope s__law_edged) f cdv A outer s H E) (defBody s__law_edged) (g__law_edged) :=
  (b_cons (s_set 3 sc__law_edged.nd (d_slC (d_var 2) o_none (o_some d_int)))
    (b_cons (s_for (i_enum Tx.f_enumerate (a_cons (d_sl (d_var 2) (o_some d_int) o_none) a_nil)) (g_tup (gs_cons (g_name 4 sc__law_edged.nd) (gs_cons (g_name 5 sc__law_edged.nd) gs_nil))) (b_cons (s_set 6 sc__law_edged.nd (d_call c__law_draw (a_cons (d_var 0) (a_cons (d_op (fun _ _ => op_addA) do_add d_int (d_var 4)) a_nil)) hr (by omega)))
    (b_cons (s_set 7 sc__law_edged.nd (d_ix (d_var 5) d_int))
    (b_cons (s_if (PDw.t (w_and (t_cmp (fun _ _ => op_eqA hr.units) do_eq (d_op (fun _ _ => op_mod) do_mod (d_op (fun _ _ => op_fdiv) do_div (d_var 6) d_int) d_int) d_int (nomark _)) (w_and1 (t_cmp (fun _ _ => op_neA hr.units) do_ne (d_var 1) (d_lst a_nil) (nomark _))))) (b_cons (s_set 8 sc__law_edged.nd (d_ix (d_ix (d_var 1) (d_op (fun _ _ => op_mod) do_mod (d_var 6) (d_callB (fun _ _ => call_len) db_len Tx.f_len (by decide +kernel) (a_cons (d_var 1) a_nil)))) d_int))
    (b_one (s_set 7 sc__law_edged.nd (d_op (fun _ _ => op_sub) do_sub (d_op (fun _ _ => op_addA) do_add (d_op (fun _ _ => op_addA) do_add (d_ix (d_ix (d_var 3) (d_neg d_int)) d_int) (d_var 8)) (d_op (fun _ _ => op_mod) do_mod (d_op (fun _ _ => op_fdiv) do_div (d_var 6) d_int) d_int)) d_int)))) b_nil)
    (b_one (s_expr (d_mt PySem.F.plainAttrs_list PySem.F.slot_list_append PySem.F.type_list_append (fun _ _ => mt_append) dm_append (d_var 3) (a_cons (d_tup (a_cons (d_ix (d_var 5) d_int) (a_cons (d_callB (fun _ _ => call_max2 rfl) db_2I Tx.f_max (by decide +kernel) (a_cons (d_var 7) (a_cons (d_ix (d_ix (d_var 3) (d_neg d_int)) d_int) a_nil))) a_nil))) a_nil))))))))
    (b_frz 3 (b_one (s_ret (d_var 3))))))
end
/-! ### _law_crossed -/
abbrev N__law_crossed : List Str := ["_law_script", "_law_number", "_law_names_here", "_law_lasts", "_law_long", "_law_short", "_law_first", "_law_gap", "_law_third", "_law_bits", "_law_rides_here"]
def g__law_crossed : DS :=
  (sSeq (sSet 1 (dCall f__law_draw (aCons (dVar 0) (aCons (dC (.int 70)) aNil))))
    (sSeq (sSet 2 (dCall f__law_names (aCons (dVar 0) (aCons (dC (.int 71)) (aCons (dC (.int 2)) aNil)))))
    (sSeq (sSet 3 (dOp oAdd (dC (.int 20)) (dOp oMod (dOp oDiv (dVar 1) (dC (.int 2))) (dC (.int 200)))))
    (sSeq (sSet 4 (dTup (aCons (dOp oIx (dVar 2) (dC (.int 0))) (aCons (dOp oAdd (dC (.int 10)) (dOp oMod (dOp oDiv (dVar 1) (dC (.int 512))) (dC (.int 21)))) (aCons (dVar 3) (aCons (dLst (aCons (dC (.int 1)) (aCons (dC (.int 2)) (aCons (dC (.int 3)) (aCons (dC (.int 4)) (aCons (dC (.int 5)) (aCons (dC (.int 6)) aNil))))))) aNil))))))
    (sSeq (sSet 5 (dTup (aCons (dOp oIx (dVar 2) (dC (.int 1))) (aCons (dOp oAdd (dC (.int 1)) (dOp oMod (dOp oDiv (dVar 1) (dC (.int 16384))) (dC (.int 5)))) (aCons (dC (.int 1)) (aCons (dCall f__law_zones (aCons (dOp oIx (dLst (aCons (dC (.int 63)) (aCons (dC (.int 1)) aNil))) (dOp oMod (dVar 1) (dC (.int 2)))) aNil)) aNil))))))
    (sSeq (sSet 6 (dOp oMod (dCall f__law_draw (aCons (dVar 0) (aCons (dC (.int 72)) aNil))) (dC (.int 14000000))))
    (sSeq (sSet 7 (dOp oAdd (dC (.int 3)) (dOp oMod (dCall f__law_draw (aCons (dVar 0) (aCons (dC (.int 73)) aNil))) (dC (.int 7)))))
    (sSeq (sSet 8 (dOp oAdd (dOp oAdd (dVar 6) (dVar 3)) (dOp oMod (dOp oDiv (dCall f__law_draw (aCons (dVar 0) (aCons (dC (.int 73)) aNil))) (dC (.int 8))) (dOp oSub (dVar 7) (dC (.int 2))))))
    (sSeq (sSet 9 (dOp oIx (dLst (aCons (dC (.int 63)) (aCons (dC (.int 3)) (aCons (dC (.int 7)) (aCons (dC (.int 62)) aNil))))) (dOp oMod (dOp oDiv (dVar 1) (dC (.int 131072))) (dC (.int 4)))))
    (sSeq (sSet 10 (dLst (aCons (dTup (aCons (dC (.int 1)) (aCons (dVar 6) aNil))) (aCons (dTup (aCons (dVar 9) (aCons (dOp oAdd (dVar 6) (dVar 7)) aNil))) (aCons (dTup (aCons (dVar 9) (aCons (dVar 8) aNil))) (aCons (dTup (aCons (dVar 9) (aCons (dOp oAdd (dVar 8) (dC (.int 1))) aNil))) aNil))))))
    (sRet (dTup (aCons (dOp oIx (dLst (aCons (dLst (aCons (dVar 4) (aCons (dVar 5) aNil))) (aCons (dLst (aCons (dVar 5) (aCons (dVar 4) aNil))) aNil))) (dOp oMod (dOp oDiv (dVar 1) (dC (.int 4))) (dC (.int 2)))) (aCons (dVar 10) aNil))))))))))))))
def f__law_crossed : List D → Sto → Res D := mkF 11 1 g__law_crossed
theorem sc__law_crossed : FnScope N__law_crossed ["_law_script"] (defScope s__law_crossed) := ⟨rfl, rfl, rfl, by decide +kernel, rfl, by decide +kernel, by decide +kernel⟩
section
variable {P : Program} {w : World} {K : PySem.W.Frag} {mg : Str → Option Value} {base : Heap}
theorem b__law_crossed (Tx : Txt K mg) (c__law_draw : Cl (tb K w) P w mg base "_law_draw" 1 2 f__law_draw) (c__law_names : Cl (tb K w) P w mg base "_law_names" 2 3 f__law_names) (c__law_zones : Cl (tb K w) P w mg base "_law_zones" 1 1 f__law_zones) {f : Addr} (cdv : Value) (A : Around) (outer : List PySem.Env) (s : Shared) (H : Hp) (E : XK) (hr : Room 2 (A.deeper (PyProof.Rows.envOfC "_law_crossed" (defScope s__law_crossed) s.heap.objs.size f cdv))) : PDb (tb K w) (cxOf (L2.CX P w) P w (tb K w).K mg base N__law_crossed "_law_crossed" (defScope s__law_crossed) f cdv A outer s H E) (defBody s__law_crossed) (g__law_crossed) :=
  (b_cons (s_set 1 sc__law_crossed.nd (d_call c__law_draw (a_cons (d_var 0) (a_cons d_int a_nil)) hr (by omega)))
    (b_cons (s_set 2 sc__law_crossed.nd (d_call c__law_names (a_cons (d_var 0) (a_cons d_int (a_cons d_int a_nil))) hr (by omega)))
    (b_cons (s_set 3 sc__law_crossed.nd (d_op (fun _ _ => op_addA) do_add d_int (d_op (fun _ _ => op_mod) do_mod (d_op (fun _ _ => op_fdiv) do_div (d_var 1) d_int) d_int)))
    (b_cons (s_set 4 sc__law_crossed.nd (d_tup (a_cons (d_ix (d_var 2) d_int) (a_cons (d_op (fun _ _ => op_addA) do_add d_int (d_op (fun _ _ => op_mod) do_mod (d_op (fun _ _ => op_fdiv) do_div (d_var 1) d_int) d_int)) (a_cons (d_var 3) (a_cons (d_lst (a_cons d_int (a_cons d_int (a_cons d_int (a_cons d_int (a_cons d_int (a_cons d_int a_nil))))))) a_nil))))))
    (b_cons (s_set 5 sc__law_crossed.nd (d_tup (a_cons (d_ix (d_var 2) d_int) (a_cons (d_op (fun _ _ => op_addA) do_add d_int (d_op (fun _ _ => op_mod) do_mod (d_op (fun _ _ => op_fdiv) do_div (d_var 1) d_int) d_int)) (a_cons d_int (a_cons (d_call c__law_zones (a_cons (d_ix (d_lst (a_cons d_int (a_cons d_int a_nil))) (d_op (fun _ _ => op_mod) do_mod (d_var 1) d_int)) a_nil) hr (by omega)) a_nil))))))
    (b_cons (s_set 6 sc__law_crossed.nd (d_op (fun _ _ => op_mod) do_mod (d_call c__law_draw (a_cons (d_var 0) (a_cons d_int a_nil)) hr (by omega)) d_int))
    (b_cons (s_set 7 sc__law_crossed.nd (d_op (fun _ _ => op_addA) do_add d_int (d_op (fun _ _ => op_mod) do_mod (d_call c__law_draw (a_cons (d_var 0) (a_cons d_int a_nil)) hr (by omega)) d_int)))
    (b_cons (s_set 8 sc__law_crossed.nd (d_op (fun _ _ => op_addA) do_add (d_op (fun _ _ => op_addA) do_add (d_var 6) (d_var 3)) (d_op (fun _ _ => op_mod) do_mod (d_op (fun _ _ => op_fdiv) do_div (d_call c__law_draw (a_cons (d_var 0) (a_cons d_int a_nil)) hr (by omega)) d_int) (d_op (fun _ _ => op_sub) do_sub (d_var 7) d_int))))
    (b_cons (s_set 9 sc__law_crossed.nd (d_ix (d_lst (a_cons d_int (a_cons d_int (a_cons d_int (a_cons d_int a_nil))))) (d_op (fun _ _ => op_mod) do_mod (d_op (fun _ _ => op_fdiv) do_div (d_var 1) d_int) d_int)))
    (b_cons (s_set 10 sc__law_crossed.nd (d_lst (a_cons (d_tup (a_cons d_int (a_cons (d_var 6) a_nil))) (a_cons (d_tup (a_cons (d_var 9) (a_cons (d_op (fun _ _ => op_addA) do_add (d_var 6) (d_var 7)) a_nil))) (a_cons (d_tup (a_cons (d_var 9) (a_cons (d_var 8) a_nil))) (a_cons (d_tup (a_cons (d_var 9) (a_cons (d_op (fun _ _ => op_addA) do_add (d_var 8) d_int) a_nil))) a_nil))))))
    (b_one (s_ret (d_tup (a_cons (d_ix (d_lst (a_cons (d_lst (a_cons (d_var 4) (a_cons (d_var 5) a_nil))) (a_cons (d_lst (a_cons (d_var 5) (a_cons (d_var 4) a_nil))) a_nil))) (d_op (fun _ _ => op_mod) do_mod (d_op (fun _ _ => op_fdiv) do_div (d_var 1) d_int) d_int)) (a_cons (d_var 10) a_nil)))))))))))))))
end
/-! ### _law_spent -/
abbrev N__law_spent : List Str := ["_law_tickets_here", "_law_rides_here", "_law_bought", "_law_spent_here", "_law_held", "_law_ride", "_law_name", "_law_ticket", "_law_zone"]
def g__law_spent_b1 : DS :=
  (sSeq (sIf (tst (dOp (oIs true) (dVar 6) (dC .non))) (sSeq (sSet 4 (dOp oIx (dLc (itAny (dVar 0)) (tgN 7) (tst (dOp oEq (dOp oIx (dVar 7) (dC (.int 0))) (dVar 6))) (dTup (aCons (dVar 7) (aCons (dOp oAdd (dOp oIx (dVar 5) (dC (.int 1))) (dOp oIx (dVar 7) (dC (.int 2)))) aNil))) [7]) (dC (.int 0))))
    (sSet 3 (dOp oAdd (dVar 3) (dOp oIx (dOp oIx (dVar 4) (dC (.int 0))) (dC (.int 1)))))) sPass)
    (sSeq (sIf (tOrD (tst (dOp (oIs false) (dVar 4) (dC .non))) (tAndD (tst (dOp (oIs false) (dVar 6) (dC .non))) (tst (dOp oGe (dOp oIx (dVar 5) (dC (.int 1))) (dOp oIx (dVar 4) (dC (.int 1))))))) (sRet (dC .non)) sPass)
    (sIf (tst (dOp oNe (dLc (itAny (dCall f__law_zones (aCons (dOp oIx (dVar 5) (dC (.int 0))) aNil))) (tgN 8) (tst (dOp (oInA true) (dVar 8) (dOp oIx (dOp oIx (dVar 4) (dC (.int 0))) (dC (.int 3))))) (dVar 8) [8]) (dLst aNil))) (sRet (dC .non)) sPass)))
def g__law_spent : DS :=
  (sSeq (sSet 3 (dC (.int 0)))
    (sSeq (sSet 4 (dC .non))
    (sSeq (sForZ2 (aCons (dVar 1) (aCons (dVar 2) aNil)) (tgT [(tgN 5), (tgN 6)]) g__law_spent_b1)
    (sRet (dVar 3)))))
def f__law_spent : List D → Sto → Res D := mkF 9 3 g__law_spent
theorem sc__law_spent : FnScope N__law_spent ["_law_tickets_here", "_law_rides_here", "_law_bought"] (defScope s__law_spent) := ⟨rfl, rfl, rfl, by decide +kernel, rfl, by decide +kernel, by decide +kernel⟩
section
variable {P : Program} {w : World} {K : PySem.W.Frag} {mg : Str → Option Value} {base : Heap}
theorem b__law_spent (Tx : Txt K mg) (c__law_zones : Cl (tb K w) P w mg base "_law_zones" 1 1 f__law_zones) {f : Addr} (cdv : Value) (A : Around) (outer : List PySem.Env) (s : Shared) (H : Hp) (E : XK) (hr : Room 1 (A.deeper (PyProof.Rows.envOfC "_law_spent" (defScope s__law_spent) s.heap.objs.size f cdv))) : PDb (tb K w) (cxOf (L2.CX P w) P w (tb K w).K mg base N__law_spent "_law_spent" (defScope s__law_spent) f cdv A outer s H E) (defBody s__law_spent) (g__law_spent) :=
  (b_cons (s_set 3 sc__law_spent.nd d_int)
    (b_cons (s_set 4 sc__law_spent.nd d_non)
    (b_cons (s_forZ2 Tx.f_zip (a_cons (d_var 1) (a_cons (d_var 2) a_nil)) (g_tup (gs_cons (g_name 5 sc__law_spent.nd) (gs_cons (g_name 6 sc__law_spent.nd) gs_nil))) (b_cons (s_if (t_cmp (fun _ _ => op_notN) do_isnot (d_var 6) d_non (nomark _)) (b_cons (s_set 4 sc__law_spent.nd (d_ix (d_lc (own := [("_law_ticket", 7)]) sc__law_spent.nd (i_any (d_var 0)) (blkOk_by (sc := defScope s__law_spent) (N := N__law_spent) (by decide +kernel)) (fun _ _ _ _ _ => (g_name 7 sc__law_spent.nd)) (fun _ _ _ _ _ => ts_one (t_cmp (fun _ _ => op_eqA hr.units) do_eq (d_ix (d_var 7) d_int) (d_var 6) (nomark _))) (fun _ _ _ _ _ => (d_tup (a_cons (d_var 7) (a_cons (d_op (fun _ _ => op_addA) do_add (d_ix (d_var 5) d_int) (d_ix (d_var 7) d_int)) a_nil))))) d_int))
    (b_one (s_set 3 sc__law_spent.nd (d_op (fun _ _ => op_addA) do_add (d_var 3) (d_ix (d_ix (d_var 4) d_int) d_int))))) b_nil)
    (b_cons (s_if (PDw.t (w_or (t_cmp (fun _ _ => op_isN) do_is (d_var 4) d_non (nomark _)) (w_or1 (PDw.t (w_and (t_cmp (fun _ _ => op_isN) do_is (d_var 6) d_non (nomark _)) (w_and1 (t_cmp (fun _ _ => op_ge) do_cmp (d_ix (d_var 5) d_int) (d_ix (d_var 4) d_int) (nomark _)))))))) (b_one (s_ret d_non)) b_nil)
    (b_one (s_if (t_cmp (fun _ _ => op_neA hr.units) do_ne (d_lc (own := [("_law_zone", 8)]) sc__law_spent.nd (i_any (d_call c__law_zones (a_cons (d_ix (d_var 5) d_int) a_nil) hr (by omega))) (blkOk_by (sc := defScope s__law_spent) (N := N__law_spent) (by decide +kernel)) (fun _ _ _ _ _ => (g_name 8 sc__law_spent.nd)) (fun _ _ _ _ _ => ts_one (t_cmp (fun _ _ => op_notInA) do_notInA (d_var 8) (d_ix (d_ix (d_var 4) d_int) d_int) (by rfl))) (fun _ _ _ _ _ => (d_var 8))) (d_lst a_nil) (nomark _)) (b_one (s_ret d_non)) b_nil)))))
    (b_one (s_ret (d_var 3))))))
end
/-! ### _law_least -/
abbrev N__law_least : List Str := ["_law_tickets_here", "_law_rides_here", "_law_names_here", "_law_best", "_law_way", "_law_bought", "_law_ride", "_law_spent_here", "_law_ticket"]
def g__law_least_b1 : DS :=
  (sSeq (sDrop (dMt "list" mAppend (dVar 5) (aCons (dOp oIx (dVar 2) (dOp oMod (dVar 4) (dBi bLen (aCons (dVar 2) aNil)))) aNil)))
    (sSet 4 (dOp oDiv (dVar 4) (dBi bLen (aCons (dVar 2) aNil)))))
def g__law_least_b2 : DS :=
  (sSeq (sSet 5 (dLstC aNil))
    (sSeq (sFor (itAny (dVar 1)) (tgN 6) g__law_least_b1)
    (sSeq (sFrz 5) (sSeq (sSet 7 (dCall f__law_spent (aCons (dVar 0) (aCons (dVar 1) (aCons (dVar 5) aNil)))))
    (sIf (tAndD (tst (dOp (oIs true) (dVar 7) (dC .non))) (tOrD (tst (dOp (oIs false) (dVar 3) (dC .non))) (tst (dOp oLt (dVar 7) (dVar 3))))) (sSet 3 (dVar 7)) sPass)))))
def g__law_least : DS :=
  (sSeq (sSet 2 (dOp oAdd (dLst (aCons (dC .non) aNil)) (dLc (itAny (dVar 0)) (tgN 8) cYes (dOp oIx (dVar 8) (dC (.int 0))) [8])))
    (sSeq (sSet 3 (dC .non))
    (sSeq (sFor (itR1 (aCons (dOp oIx (dLst (aCons (dC (.int 1)) (aCons (dBi bLen (aCons (dVar 2) aNil)) (aCons (dOp oPow (dBi bLen (aCons (dVar 2) aNil)) (dC (.int 2))) (aCons (dOp oPow (dBi bLen (aCons (dVar 2) aNil)) (dC (.int 3))) (aCons (dOp oPow (dBi bLen (aCons (dVar 2) aNil)) (dC (.int 4))) aNil)))))) (dBi bLen (aCons (dVar 1) aNil))) aNil)) (tgN 4) g__law_least_b2)
    (sRet (dVar 3)))))
def f__law_least : List D → Sto → Res D := mkF 9 2 g__law_least
theorem sc__law_least : FnScope N__law_least ["_law_tickets_here", "_law_rides_here"] (defScope s__law_least) := ⟨rfl, rfl, rfl, by decide +kernel, rfl, by decide +kernel, by decide +kernel⟩
section
variable {P : Program} {w : World} {K : PySem.W.Frag} {mg : Str → Option Value} {base : Heap}
theorem b__law_least (Tx : Txt K mg) (c__law_spent : Cl (tb K w) P w mg base "_law_spent" 2 3 f__law_spent) {f : Addr} (cdv : Value) (A : Around) (outer : List PySem.Env) (s : Shared) (H : Hp) (E : XK) (hr : Room 2 (A.deeper (PyProof.Rows.envOfC "_law_least" (defScope s__law_least) s.heap.objs.size f cdv))) : PDb (tb K w) (cxOf (L2.CX P w) P w (tb K w).K mg base N__law_least "_law_least" (defScope s__law_least) f cdv A outer s H E) (defBody s__law_least) (g__law_least) :=
  (b_cons (s_set 2 sc__law_least.nd (d_op (fun _ _ => op_addA) do_add (d_lst (a_cons d_non a_nil)) (d_lc (own := [("_law_ticket", 8)]) sc__law_least.nd (i_any (d_var 0)) (blkOk_by (sc := defScope s__law_least) (N := N__law_least) (by decide +kernel)) (fun _ _ _ _ _ => (g_name 8 sc__law_least.nd)) (fun _ _ _ _ _ => ts_nil) (fun _ _ _ _ _ => (d_ix (d_var 8) d_int)))))
    (b_cons (s_set 3 sc__law_least.nd d_non)
    (b_cons (s_for (i_range1 Tx.f_range (a_cons (d_ix (d_lst (a_cons d_int (a_cons (d_callB (fun _ _ => call_len) db_len Tx.f_len (by decide +kernel) (a_cons (d_var 2) a_nil)) (a_cons (d_op (fun _ _ => op_pow) do_pow (d_callB (fun _ _ => call_len) db_len Tx.f_len (by decide +kernel) (a_cons (d_var 2) a_nil)) d_int) (a_cons (d_op (fun _ _ => op_pow) do_pow (d_callB (fun _ _ => call_len) db_len Tx.f_len (by decide +kernel) (a_cons (d_var 2) a_nil)) d_int) (a_cons (d_op (fun _ _ => op_pow) do_pow (d_callB (fun _ _ => call_len) db_len Tx.f_len (by decide +kernel) (a_cons (d_var 2) a_nil)) d_int) a_nil)))))) (d_callB (fun _ _ => call_len) db_len Tx.f_len (by decide +kernel) (a_cons (d_var 1) a_nil))) a_nil)) (g_name 4 sc__law_least.nd) (b_cons (s_set 5 sc__law_least.nd (d_lstC a_nil))
    (b_cons (s_for (i_any (d_var 1)) (g_name 6 sc__law_least.nd) (b_cons (s_expr (d_mt PySem.F.plainAttrs_list PySem.F.slot_list_append PySem.F.type_list_append (fun _ _ => mt_append) dm_append (d_var 5) (a_cons (d_ix (d_var 2) (d_op (fun _ _ => op_mod) do_mod (d_var 4) (d_callB (fun _ _ => call_len) db_len Tx.f_len (by decide +kernel) (a_cons (d_var 2) a_nil)))) a_nil)))
    (b_one (s_set 4 sc__law_least.nd (d_op (fun _ _ => op_fdiv) do_div (d_var 4) (d_callB (fun _ _ => call_len) db_len Tx.f_len (by decide +kernel) (a_cons (d_var 2) a_nil)))))))
    (b_frz 5 (b_cons (s_set 7 sc__law_least.nd (d_call c__law_spent (a_cons (d_var 0) (a_cons (d_var 1) (a_cons (d_var 5) a_nil))) hr (by omega)))
    (b_one (s_if (PDw.t (w_and (t_cmp (fun _ _ => op_notN) do_isnot (d_var 7) d_non (nomark _)) (w_and1 (PDw.t (w_or (t_cmp (fun _ _ => op_isN) do_is (d_var 3) d_non (nomark _)) (w_or1 (t_cmp (fun _ _ => op_lt) do_cmp (d_var 7) (d_var 3) (nomark _)))))))) (b_one (s_set 3 sc__law_least.nd (d_var 7))) b_nil)))))))
    (b_one (s_ret (d_var 3))))))
end
/-! ### _law_good -/
abbrev N__law_good : List Str := ["_law_net_here", "_law_tickets_here", "_law_rides_here", "_law_best", "_law_handed", "_law_found", "_law_name", "_law_ticket"]
def g__law_good : DS :=
  (sSeq (sSet 4 (dBi bList (aCons (dVar 2) aNil)))
    (sSeq (sSet 5 (dCall f_least_tickets (aCons (dVar 0) (aCons (dVar 4) aNil))))
    (sSeq (sIf (tOrD (tst (dOp oNe (dVar 4) (dVar 2))) (tst (dOp (oIs false) (dVar 3) (dC .non)))) (sRet (dAndV (dOp oEq (dVar 4) (dVar 2)) (dOp (oIs false) (dVar 5) (dC .non)))) sPass)
    (sSeq (sIf (tOrD (tNotD (tst (dBi (bIsO parT parA csT) (aCons (dVar 5) (aCons (dC (.ty "tuple")) aNil))))) (tOrD (tst (dOp oNe (dBi bLen (aCons (dVar 5) aNil)) (dC (.int 2)))) (tNotD (tst (dBi (bIsO parT parA csT) (aCons (dOp oIx (dVar 5) (dC (.int 1))) (aCons (dC (.ty "list")) aNil))))))) (sRet (dC (.bl false))) sPass)
    (sSeq (sIf (tOrD (tNotD (tst (dCall f__law_whole (aCons (dOp oIx (dVar 5) (dC (.int 0))) aNil)))) (tOrD (tst (dOp oNe (dOp oIx (dVar 5) (dC (.int 0))) (dVar 3))) (tst (dOp oNe (dBi bLen (aCons (dOp oIx (dVar 5) (dC (.int 1))) aNil)) (dBi bLen (aCons (dVar 2) aNil)))))) (sRet (dC (.bl false))) sPass)
    (sSeq (sIf (tst (dOp oNe (dLcA (dOp oIx (dVar 5) (dC (.int 1))) (tgN 6) (tAndD (tst (dOp (oIs true) (dVar 6) (dC .non))) (tst (dOp (oInA true) (dVar 6) (dLc (itAny (dVar 1)) (tgN 7) cYes (dOp oIx (dVar 7) (dC (.int 0))) [7])))) (dVar 6) [6]) (dLst aNil))) (sRet (dC (.bl false))) sPass)
    (sSeq (sIf (tst (dOp oNe (dCall f__law_spent (aCons (dVar 1) (aCons (dVar 2) (aCons (dOp oIx (dVar 5) (dC (.int 1))) aNil)))) (dVar 3))) (sRet (dC (.bl false))) sPass)
    (sSeq (sDrop (dMt "list" mReverse (dOp oIx (dVar 5) (dC (.int 1))) aNil))
    (sSeq (sDrop (dMt "list" mAppend (dOp oIx (dVar 5) (dC (.int 1))) (aCons (dC (.str [109, 111, 114, 101])) aNil)))
    (sRet (dC (.bl true))))))))))))
def f__law_good : List D → Sto → Res D := mkF 8 4 g__law_good
theorem sc__law_good : FnScope N__law_good ["_law_net_here", "_law_tickets_here", "_law_rides_here", "_law_best"] (defScope s__law_good) := ⟨rfl, rfl, rfl, by decide +kernel, rfl, by decide +kernel, by decide +kernel⟩
section
variable {P : Program} {w : World} {K : PySem.W.Frag} {mg : Str → Option Value} {base : Heap}
theorem b__law_good (Tx : Txt K mg) (c_least_tickets : Cl (tb K w) P w mg base "least_tickets" 6 2 f_least_tickets) (c__law_whole : Cl (tb K w) P w mg base "_law_whole" 1 1 f__law_whole) (c__law_spent : Cl (tb K w) P w mg base "_law_spent" 2 3 f__law_spent) {f : Addr} (cdv : Value) (A : Around) (outer : List PySem.Env) (s : Shared) (H : Hp) (E : XK) (hr : Room 6 (A.deeper (PyProof.Rows.envOfC "_law_good" (defScope s__law_good) s.heap.objs.size f cdv))) : PDb (tb K w) (cxOf (L2.CX P w) P w (tb K w).K mg base N__law_good "_law_good" (defScope s__law_good) f cdv A outer s H E) (defBody s__law_good) (g__law_good) :=
  (b_cons (s_set 4 sc__law_good.nd (d_callT (fun _ _ => call_list_of) db_list Tx.f_list (by decide +kernel) (a_cons (d_var 2) a_nil)))
    (b_cons (s_set 5 sc__law_good.nd (d_call c_least_tickets (a_cons (d_var 0) (a_cons (d_var 4) a_nil)) hr (by omega)))
    (b_cons (s_if (PDw.t (w_or (t_cmp (fun _ _ => op_neA hr.units) do_ne (d_var 4) (d_var 2) (nomark _)) (w_or1 (t_cmp (fun _ _ => op_isN) do_is (d_var 3) d_non (nomark _))))) (b_one (s_ret (d_and (d_cmp (fun _ _ => op_eqA hr.units) do_eq (d_var 4) (d_var 2) (nomark _)) (d_one (d_cmp (fun _ _ => op_isN) do_is (d_var 5) d_non (nomark _)))))) b_nil)
    (b_cons (s_if (PDw.t (w_or (t_not (t_val (d_callB (fun _ _ => call_isA) (db_isO Tx.xt Tx.ob Tx.ki) Tx.f_isinstance (by decide +kernel) (a_cons (d_var 5) (a_cons (d_ty "tuple" Tx.f_tuple (by decide +kernel)) a_nil))))) (w_or (t_cmp (fun _ _ => op_neA hr.units) do_ne (d_callB (fun _ _ => call_len) db_len Tx.f_len (by decide +kernel) (a_cons (d_var 5) a_nil)) d_int (nomark _)) (w_or1 (t_not (t_val (d_callB (fun _ _ => call_isA) (db_isO Tx.xt Tx.ob Tx.ki) Tx.f_isinstance (by decide +kernel) (a_cons (d_ix (d_var 5) d_int) (a_cons (d_ty "list" Tx.f_list (by decide +kernel)) a_nil))))))))) (b_one (s_ret d_bl)) b_nil)
    (b_cons (s_if (PDw.t (w_or (t_not (t_val (d_call c__law_whole (a_cons (d_ix (d_var 5) d_int) a_nil) hr (by omega)))) (w_or (t_cmp (fun _ _ => op_neA hr.units) do_ne (d_ix (d_var 5) d_int) (d_var 3) (nomark _)) (w_or1 (t_cmp (fun _ _ => op_neA hr.units) do_ne (d_callB (fun _ _ => call_len) db_len Tx.f_len (by decide +kernel) (a_cons (d_ix (d_var 5) d_int) a_nil)) (d_callB (fun _ _ => call_len) db_len Tx.f_len (by decide +kernel) (a_cons (d_var 2) a_nil)) (nomark _)))))) (b_one (s_ret d_bl)) b_nil)
    (b_cons (s_if (t_cmp (fun _ _ => op_neA hr.units) do_ne (d_lcA (own := [("_law_name", 6)]) sc__law_good.nd (d_ix (d_var 5) d_int) (blkOk_by (sc := defScope s__law_good) (N := N__law_good) (by decide +kernel)) (fun _ _ _ _ _ => (g_name 6 sc__law_good.nd)) (fun _ _ _ _ _ => ts_one (PDw.t (w_and (t_cmp (fun _ _ => op_notN) do_isnot (d_var 6) d_non (nomark _)) (w_and1 (t_cmp (fun _ _ => op_notInA) do_notInA (d_var 6) (d_lc (own := [("_law_ticket", 7)]) sc__law_good.nd (i_any (d_var 1)) (blkOk_nf (N := N__law_good) (by decide +kernel)) (fun _ _ _ _ _ => (g_name 7 sc__law_good.nd)) (fun _ _ _ _ _ => ts_nil) (fun _ _ _ _ _ => (d_ix (d_var 7) d_int))) (by rfl)))))) (fun _ _ _ _ _ => (d_var 6))) (d_lst a_nil) (nomark _)) (b_one (s_ret d_bl)) b_nil)
    (b_cons (s_if (t_cmp (fun _ _ => op_neA hr.units) do_ne (d_call c__law_spent (a_cons (d_var 1) (a_cons (d_var 2) (a_cons (d_ix (d_var 5) d_int) a_nil))) hr (by omega)) (d_var 3) (nomark _)) (b_one (s_ret d_bl)) b_nil)
    (b_cons (s_expr (d_mt0 PySem.F.plainAttrs_list PySem.F.slot_list_reverse PySem.F.type_list_reverse (fun _ _ => mt_reverse) dm_reverse (d_ix (d_var 5) d_int)))
    (b_cons (s_expr (d_mt PySem.F.plainAttrs_list PySem.F.slot_list_append PySem.F.type_list_append (fun _ _ => mt_append) dm_append (d_ix (d_var 5) d_int) (a_cons (d_str [109, 111, 114, 101] (by decide +kernel)) a_nil)))
    (b_one (s_ret d_bl)))))))))))
end
/-! ### law -/
abbrev N_law : List Str := ["_law_script", "_law_tickets_here", "_law_rides_here", "_law_net_here", "_law_best", "_law_others"]
def g_law : DS :=
  (sSeq (sSet 1 (dCall f__law_tickets (aCons (dVar 0) (aCons (dC (.int 0)) (aCons (dOp oMod (dCall f__law_draw (aCons (dVar 0) (aCons (dC (.int 9)) aNil))) (dC (.int 4))) aNil)))))
    (sSeq (sSet 2 (dCall f__law_edged (aCons (dVar 0) (aCons (dVar 1) (aCons (dCall f__law_rides (aCons (dVar 0) (aCons (dC (.int 10)) (aCons (dOp oMod (dCall f__law_draw (aCons (dVar 0) (aCons (dC (.int 8)) aNil))) (dC (.int 5))) aNil)))) aNil)))))
    (sSeq (sIf (tst (dOp oEq (dOp oMod (dCall f__law_draw (aCons (dVar 0) (aCons (dC (.int 74)) aNil))) (dC (.int 4))) (dC (.int 1)))) (sAsg (dCall f__law_crossed (aCons (dVar 0) aNil)) (tgT [(tgN 1), (tgN 2)])) sPass)
    (sSeq (sSet 3 (dCall f__law_net (aCons (dVar 1) aNil)))
    (sSeq (sSet 4 (dCall f__law_least (aCons (dVar 1) (aCons (dVar 2) aNil))))
    (sSeq (sIf (tNotD (tst (dCall f__law_good (aCons (dVar 3) (aCons (dVar 1) (aCons (dVar 2) (aCons (dVar 4) aNil))))))) (sRet (dC (.bl false))) sPass)
    (sSeq (sSet 5 (dSl (dVar 2) (pSome (dC (.int 1))) pNone))
    (sSeq (sIf (tst (dOp oNe (dVar 2) (dLst aNil))) (sSet 5 (dOp oAdd (dVar 5) (dLst (aCons (dTup (aCons (dC (.int 63)) (aCons (dOp oAdd (dOp oIx (dOp oIx (dVar 2) (dUn (fun i => -i) (dC (.int 1)))) (dC (.int 1))) (dC (.int 5))) aNil))) aNil)))) sPass)
    (sSeq (sIf (tNotD (tst (dCall f__law_good (aCons (dVar 3) (aCons (dVar 1) (aCons (dVar 5) (aCons (dCall f__law_least (aCons (dVar 1) (aCons (dVar 5) aNil))) aNil))))))) (sRet (dC (.bl false))) sPass)
    (sRet (dCall f__law_good (aCons (dVar 3) (aCons (dVar 1) (aCons (dVar 2) (aCons (dVar 4) aNil)))))))))))))))
def f_law : List D → Sto → Res D := mkF 6 1 g_law
theorem sc_law : FnScope N_law ["_law_script"] (defScope s_law) := ⟨rfl, rfl, rfl, by decide +kernel, rfl, by decide +kernel, by decide +kernel⟩
section
variable {P : Program} {w : World} {K : PySem.W.Frag} {mg : Str → Option Value} {base : Heap}
theorem b_law (Tx : Txt K mg) (c__law_draw : Cl (tb K w) P w mg base "_law_draw" 1 2 f__law_draw) (c__law_tickets : Cl (tb K w) P w mg base "_law_tickets" 3 3 f__law_tickets) (c__law_rides : Cl (tb K w) P w mg base "_law_rides" 2 3 f__law_rides) (c__law_edged : Cl (tb K w) P w mg base "_law_edged" 2 3 f__law_edged) (c__law_crossed : Cl (tb K w) P w mg base "_law_crossed" 3 1 f__law_crossed) (c__law_net : Cl (tb K w) P w mg base "_law_net" 4 1 f__law_net) (c__law_least : Cl (tb K w) P w mg base "_law_least" 3 2 f__law_least) (c__law_good : Cl (tb K w) P w mg base "_law_good" 7 4 f__law_good) {f : Addr} (cdv : Value) (A : Around) (outer : List PySem.Env) (s : Shared) (H : Hp) (E : XK) (hr : Room 7 (A.deeper (PyProof.Rows.envOfC "law" (defScope s_law) s.heap.objs.size f cdv))) : PDb (tb K w) (cxOf (L2.CX P w) P w (tb K w).K mg base N_law "law" (defScope s_law) f cdv A outer s H E) (defBody s_law) (g_law) :=
  (b_cons (s_set 1 sc_law.nd (d_call c__law_tickets (a_cons (d_var 0) (a_cons d_int (a_cons (d_op (fun _ _ => op_mod) do_mod (d_call c__law_draw (a_cons (d_var 0) (a_cons d_int a_nil)) hr (by omega)) d_int) a_nil))) hr (by omega)))
    (b_cons (s_set 2 sc_law.nd (d_call c__law_edged (a_cons (d_var 0) (a_cons (d_var 1) (a_cons (d_call c__law_rides (a_cons (d_var 0) (a_cons d_int (a_cons (d_op (fun _ _ => op_mod) do_mod (d_call c__law_draw (a_cons (d_var 0) (a_cons d_int a_nil)) hr (by omega)) d_int) a_nil))) hr (by omega)) a_nil))) hr (by omega)))
    (b_cons (s_if (t_cmp (fun _ _ => op_eqA hr.units) do_eq (d_op (fun _ _ => op_mod) do_mod (d_call c__law_draw (a_cons (d_var 0) (a_cons d_int a_nil)) hr (by omega)) d_int) d_int (nomark _)) (b_one (s_asg (d_call c__law_crossed (a_cons (d_var 0) a_nil) hr (by omega)) (g_tup (gs_cons (g_name 1 sc_law.nd) (gs_cons (g_name 2 sc_law.nd) gs_nil))))) b_nil)
    (b_cons (s_set 3 sc_law.nd (d_call c__law_net (a_cons (d_var 1) a_nil) hr (by omega)))
    (b_cons (s_set 4 sc_law.nd (d_call c__law_least (a_cons (d_var 1) (a_cons (d_var 2) a_nil)) hr (by omega)))
    (b_cons (s_if (t_not (t_val (d_call c__law_good (a_cons (d_var 3) (a_cons (d_var 1) (a_cons (d_var 2) (a_cons (d_var 4) a_nil)))) hr (by omega)))) (b_one (s_ret d_bl)) b_nil)
    (b_cons (s_set 5 sc_law.nd (d_sl (d_var 2) (o_some d_int) o_none))
    (b_cons (s_if (t_cmp (fun _ _ => op_neA hr.units) do_ne (d_var 2) (d_lst a_nil) (nomark _)) (b_one (s_set 5 sc_law.nd (d_op (fun _ _ => op_addA) do_add (d_var 5) (d_lst (a_cons (d_tup (a_cons d_int (a_cons (d_op (fun _ _ => op_addA) do_add (d_ix (d_ix (d_var 2) (d_neg d_int)) d_int) d_int) a_nil))) a_nil))))) b_nil)
    (b_cons (s_if (t_not (t_val (d_call c__law_good (a_cons (d_var 3) (a_cons (d_var 1) (a_cons (d_var 5) (a_cons (d_call c__law_least (a_cons (d_var 1) (a_cons (d_var 5) a_nil)) hr (by omega)) a_nil)))) hr (by omega)))) (b_one (s_ret d_bl)) b_nil)
    (b_one (s_ret (d_call c__law_good (a_cons (d_var 3) (a_cons (d_var 1) (a_cons (d_var 2) (a_cons (d_var 4) a_nil)))) hr (by omega)))))))))))))
end
end Rb
namespace Rb
open PySem PySem.Spec L2 Mp
/-! ### the head -/
def d_is_among : He.DefD := ⟨("is_among", none), "is_among", "is_among", defArgs s_is_among, defBody s_is_among, defScope s_is_among, [], []⟩
def d_zone_bits : He.DefD := ⟨("zone_bits", none), "zone_bits", "zone_bits", defArgs s_zone_bits, defBody s_zone_bits, defScope s_zone_bits, [], []⟩
def d_is_name : He.DefD := ⟨("is_name", none), "is_name", "is_name", defArgs s_is_name, defBody s_is_name, defScope s_is_name, [], []⟩
def d_Net_ticket : He.DefD := ⟨("Net", some "ticket"), "ticket", "Net.ticket", defArgs s_Net_ticket, defBody s_Net_ticket, defScope s_Net_ticket, [], []⟩
def d_fits : He.DefD := ⟨("fits", none), "fits", "fits", defArgs s_fits, defBody s_fits, defScope s_fits, [], []⟩
def d_holds_still : He.DefD := ⟨("holds_still", none), "holds_still", "holds_still", defArgs s_holds_still, defBody s_holds_still, defScope s_holds_still, [], []⟩
def d_keep_least : He.DefD := ⟨("keep_least", none), "keep_least", "keep_least", defArgs s_keep_least, defBody s_keep_least, defScope s_keep_least, [], []⟩
def d_Net_tickets : He.DefD := ⟨("Net", some "tickets"), "tickets", "Net.tickets", defArgs s_Net_tickets, defBody s_Net_tickets, defScope s_Net_tickets, [], []⟩
def d_behind_ride : He.DefD := ⟨("behind_ride", none), "behind_ride", "behind_ride", defArgs s_behind_ride, defBody s_behind_ride, defScope s_behind_ride, [], []⟩
def d_least_tickets : He.DefD := ⟨("least_tickets", none), "least_tickets", "least_tickets", defArgs s_least_tickets, defBody s_least_tickets, defScope s_least_tickets, [], []⟩
def d_need_fresh : He.DefD := ⟨("need_fresh", none), "need_fresh", "need_fresh", defArgs s_need_fresh, defBody s_need_fresh, defScope s_need_fresh, [], []⟩
def d_need_among : He.DefD := ⟨("need_among", none), "need_among", "need_among", defArgs s_need_among, defBody s_need_among, defScope s_need_among, [], []⟩
def d_need_room : He.DefD := ⟨("need_room", none), "need_room", "need_room", defArgs s_need_room, defBody s_need_room, defScope s_need_room, [], []⟩
def d_are_zones : He.DefD := ⟨("are_zones", none), "are_zones", "are_zones", defArgs s_are_zones, defBody s_are_zones, defScope s_are_zones, [], []⟩
def d_Net___init__ : He.DefD := ⟨("Net", some "__init__"), "__init__", "Net.__init__", defArgs s_Net___init__, defBody s_Net___init__, defScope s_Net___init__, [], []⟩
def d_Net_add_ticket : He.DefD := ⟨("Net", some "add_ticket"), "add_ticket", "Net.add_ticket", defArgs s_Net_add_ticket, defBody s_Net_add_ticket, defScope s_Net_add_ticket, [], []⟩
def d__law_draw : He.DefD := ⟨("_law_draw", none), "_law_draw", "_law_draw", defArgs s__law_draw, defBody s__law_draw, defScope s__law_draw, [], []⟩
def d__law_whole : He.DefD := ⟨("_law_whole", none), "_law_whole", "_law_whole", defArgs s__law_whole, defBody s__law_whole, defScope s__law_whole, [], []⟩
def d__law_names : He.DefD := ⟨("_law_names", none), "_law_names", "_law_names", defArgs s__law_names, defBody s__law_names, defScope s__law_names, [], []⟩
def d__law_zones : He.DefD := ⟨("_law_zones", none), "_law_zones", "_law_zones", defArgs s__law_zones, defBody s__law_zones, defScope s__law_zones, [], []⟩
def d__law_tickets : He.DefD := ⟨("_law_tickets", none), "_law_tickets", "_law_tickets", defArgs s__law_tickets, defBody s__law_tickets, defScope s__law_tickets, [], []⟩
def d__law_net : He.DefD := ⟨("_law_net", none), "_law_net", "_law_net", defArgs s__law_net, defBody s__law_net, defScope s__law_net, [], []⟩
def d__law_rides : He.DefD := ⟨("_law_rides", none), "_law_rides", "_law_rides", defArgs s__law_rides, defBody s__law_rides, defScope s__law_rides, [], []⟩
def d__law_edged : He.DefD := ⟨("_law_edged", none), "_law_edged", "_law_edged", defArgs s__law_edged, defBody s__law_edged, defScope s__law_edged, [], []⟩
def d__law_crossed : He.DefD := ⟨("_law_crossed", none), "_law_crossed", "_law_crossed", defArgs s__law_crossed, defBody s__law_crossed, defScope s__law_crossed, [], []⟩
def d__law_spent : He.DefD := ⟨("_law_spent", none), "_law_spent", "_law_spent", defArgs s__law_spent, defBody s__law_spent, defScope s__law_spent, [], []⟩
def d__law_least : He.DefD := ⟨("_law_least", none), "_law_least", "_law_least", defArgs s__law_least, defBody s__law_least, defScope s__law_least, [], []⟩
def d__law_good : He.DefD := ⟨("_law_good", none), "_law_good", "_law_good", defArgs s__law_good, defBody s__law_good, defScope s__law_good, [], []⟩
def d_law : He.DefD := ⟨("law", none), "law", "law", defArgs s_law, defBody s_law, defScope s_law, [], []⟩
def fn : List He.DefD := [d_is_among, d_zone_bits, d_is_name, d_Net_ticket, d_fits, d_holds_still, d_keep_least, d_Net_tickets, d_behind_ride, d_least_tickets, d_need_fresh, d_need_among, d_need_room, d_are_zones, d_Net___init__, d_Net_add_ticket, d__law_draw, d__law_whole, d__law_names, d__law_zones, d__law_tickets, d__law_net, d__law_rides, d__law_edged, d__law_crossed, d__law_spent, d__law_least, d__law_good, d_law]
def fa : List He.Fa := [.glo "is_among", .glo "zone_bits", .glo "is_name", .glo "fits", .glo "holds_still", .glo "keep_least", .glo "behind_ride", .glo "least_tickets", .glo "need_fresh", .glo "need_among", .glo "need_room", .glo "are_zones", .glo "_law_draw", .glo "_law_whole", .glo "_law_names", .glo "_law_zones", .glo "_law_tickets", .glo "_law_net", .glo "_law_rides", .glo "_law_edged", .glo "_law_crossed", .glo "_law_spent", .glo "_law_least", .glo "_law_good", .glo "law", .mkr "Net", .free "all", .free "bool", .free "enumerate", .free "int", .free "isinstance", .free "len", .free "list", .free "max", .free "range", .free "str", .free "tuple", .free "zip", .str "LETTERS" (S [97, 98, 99, 100, 101, 102, 103, 104, 105, 106, 107, 108, 109, 110, 111, 112, 113, 114, 115, 116, 117, 118, 119, 120, 121, 122]), .int "MOST_LETTERS" 8, .int "MOST_TICKETS" 3, .int "MOST_ZONE" 6, .glo "RoadError", .glo "TooMany", .glo "BadName", .glo "Twice", .glo "NoStop", .glo "NoRule", .glo "NoTicket", .glo "NoTrip", .glo "BadNumber", .glo "Net"]
abbrev R : PySem.W.OpenRow := PySem.W.OpenLaw.row PySem.Challenge.rw_roadbook_k19_least_by_all_ways
def mo0 : List (Str × Str × Str) := [("Net", "ticket", "Net"), ("Net", "tickets", "Net"), ("Net", "add_ticket", "Net")]
def moL : List (Str × Str × Str) := mo0
abbrev m0L : List Str := []
def exK (K : PySem.W.Frag) : Bool := exB caT parT n1T K && (obB caT fmT csT 5 K && (kiB caT parA csT K && (moB moL K && mk0B m0L K)))
abbrev hk : PySem.W.Hook := Mp.hookE 5 fa fn exK
def ob (s : PySem.W.SharedT) : Mp.AlE := Mp.obsEG 5 fa fn exK (HandSHeadRun.getT s)
theorem ob_eq (s : PySem.W.SharedT) : ob s = hk.obs s.abs := Mp.obsEG_eq (HandSHeadRun.getT_eq s)
def loose0 : List Str := ["_wall", "RoadError", "TooMany", "BadName", "Twice", "NoStop", "NoRule", "NoTicket", "NoTrip", "BadNumber", "is_among", "zone_bits", "fits", "holds_still", "keep_least", "behind_ride", "least_tickets", "LETTERS", "MOST_LETTERS", "MOST_TICKETS", "MOST_ZONE", "is_name", "need_fresh", "need_among", "need_room", "are_zones", "Net", "_law_draw", "_law_whole", "_law_names"]
def loose1 : List Str := ["_law_zones", "_law_tickets", "_law_net", "_law_rides", "_law_edged", "_law_crossed", "_law_spent", "_law_least", "_law_good"]
abbrev loose : List Str := loose0 ++ loose1
theorem run (w : World) : HandSHeadRun.RunEq R (PySem.W.view R.prog [45]) hk ob 8000 loose w := by
  intro os
  kernel_rfl
section
variable {P : Program} {w : World} {K : PySem.W.Frag} {h : Heap} {mg : Str → Option Value} {f : Addr}
theorem txt (X : K.In h) (G : h.Ns mainGlobals mg) (c : Mp.SaysE fa fn exK K) : Txt K mg where
  f_all := He.free_ok X G (c.d.fact 26 (f := .free "all") rfl)
  f_bool := He.free_ok X G (c.d.fact 27 (f := .free "bool") rfl)
  f_enumerate := He.free_ok X G (c.d.fact 28 (f := .free "enumerate") rfl)
  f_int := He.free_ok X G (c.d.fact 29 (f := .free "int") rfl)
  f_isinstance := He.free_ok X G (c.d.fact 30 (f := .free "isinstance") rfl)
  f_len := He.free_ok X G (c.d.fact 31 (f := .free "len") rfl)
  f_list := He.free_ok X G (c.d.fact 32 (f := .free "list") rfl)
  f_max := He.free_ok X G (c.d.fact 33 (f := .free "max") rfl)
  f_range := He.free_ok X G (c.d.fact 34 (f := .free "range") rfl)
  f_str := He.free_ok X G (c.d.fact 35 (f := .free "str") rfl)
  f_tuple := He.free_ok X G (c.d.fact 36 (f := .free "tuple") rfl)
  f_zip := He.free_ok X G (c.d.fact 37 (f := .free "zip") rfl)
  k_LETTERS := let ⟨t, e⟩ := He.str_ok X G (c.d.fact 38 (f := .str "LETTERS" (S [97, 98, 99, 100, 101, 102, 103, 104, 105, 106, 107, 108, 109, 110, 111, 112, 113, 114, 115, 116, 117, 118, 119, 120, 121, 122])) rfl); ⟨_, e, _, rfl⟩
  k_MOST_LETTERS := let ⟨t, e⟩ := He.int_ok X G (c.d.fact 39 (f := .int "MOST_LETTERS" 8) rfl); ⟨_, e, _, rfl⟩
  k_MOST_TICKETS := let ⟨t, e⟩ := He.int_ok X G (c.d.fact 40 (f := .int "MOST_TICKETS" 3) rfl); ⟨_, e, _, rfl⟩
  k_MOST_ZONE := let ⟨t, e⟩ := He.int_ok X G (c.d.fact 41 (f := .int "MOST_ZONE" 6) rfl); ⟨_, e, _, rfl⟩
  c_RoadError := He.glo_ok X G (c.d.fact 42 (f := .glo "RoadError") rfl)
  c_TooMany := He.glo_ok X G (c.d.fact 43 (f := .glo "TooMany") rfl)
  c_BadName := He.glo_ok X G (c.d.fact 44 (f := .glo "BadName") rfl)
  c_Twice := He.glo_ok X G (c.d.fact 45 (f := .glo "Twice") rfl)
  c_NoStop := He.glo_ok X G (c.d.fact 46 (f := .glo "NoStop") rfl)
  c_NoRule := He.glo_ok X G (c.d.fact 47 (f := .glo "NoRule") rfl)
  c_NoTicket := He.glo_ok X G (c.d.fact 48 (f := .glo "NoTicket") rfl)
  c_NoTrip := He.glo_ok X G (c.d.fact 49 (f := .glo "NoTrip") rfl)
  c_BadNumber := He.glo_ok X G (c.d.fact 50 (f := .glo "BadNumber") rfl)
  c_Net := He.glo_ok X G (c.d.fact 51 (f := .glo "Net") rfl)
  xt := exT_of (He.ba (show (exB caT parT n1T K && _) = true from c.more)).1
  ob := obT_of (He.ba (He.ba (show (exB caT parT n1T K && (obB caT fmT csT 5 K && _)) = true from c.more)).2).1 (by decide +kernel)
  ki := kiT_of (He.ba (He.ba (He.ba (show (exB caT parT n1T K && (obB caT fmT csT 5 K && (kiB caT parA csT K && _))) = true from c.more)).2).2).1
theorem mot (c : Mp.SaysE fa fn exK K) : moB moL K = true := (He.ba (He.ba (He.ba (He.ba (show (exB caT parT n1T K && (obB caT fmT csT 5 K && (kiB caT parA csT K && (moB moL K && mk0B m0L K)))) = true from c.more)).2).2).2).1
theorem ok_is_among {base : Heap} (X : K.In h) (G : h.Ns mainGlobals mg) (c : Mp.SaysE fa fn exK K) : Okd (tb K w) P w mg base (He.fAd K ("is_among", none)) 1 3 f_is_among := by
  obtain ⟨fd, F⟩ := c.d.def_ 0 (d := d_is_among) rfl
  exact ⟨fd, ["thing", "least", "most"], F.kp, F.bindsN fun _ _ _ _ _ _ us hl => match us, hl with | [_, _, _], _ => rfl, fn_d (T := tb K w) F sc_is_among fun cdv A outer s H E hr => b_is_among (txt X G c)  cdv A outer s H E hr⟩
theorem ok_zone_bits {base : Heap} (X : K.In h) (G : h.Ns mainGlobals mg) (c : Mp.SaysE fa fn exK K) : Okd (tb K w) P w mg base (He.fAd K ("zone_bits", none)) 1 1 f_zone_bits := by
  obtain ⟨fd, F⟩ := c.d.def_ 1 (d := d_zone_bits) rfl
  exact ⟨fd, ["zones"], F.kp, F.bindsN fun _ _ _ _ _ _ us hl => match us, hl with | [_], _ => rfl, fn_d (T := tb K w) F sc_zone_bits fun cdv A outer s H E hr => b_zone_bits (txt X G c)  cdv A outer s H E hr⟩
theorem ok_is_name {base : Heap} (X : K.In h) (G : h.Ns mainGlobals mg) (c : Mp.SaysE fa fn exK K) : Okd (tb K w) P w mg base (He.fAd K ("is_name", none)) 1 1 f_is_name := by
  obtain ⟨fd, F⟩ := c.d.def_ 2 (d := d_is_name) rfl
  exact ⟨fd, ["thing"], F.kp, F.bindsN fun _ _ _ _ _ _ us hl => match us, hl with | [_], _ => rfl, fn_d (T := tb K w) F sc_is_name fun cdv A outer s H E hr => b_is_name (txt X G c)  cdv A outer s H E hr⟩
theorem ok_Net_ticket {base : Heap} (X : K.In h) (G : h.Ns mainGlobals mg) (c : Mp.SaysE fa fn exK K) : Okd (tb K w) P w mg base (He.fAd K ("Net", some "ticket")) 2 2 f_Net_ticket := by
  obtain ⟨fd, F⟩ := c.d.def_ 3 (d := d_Net_ticket) rfl
  exact ⟨fd, ["self", "name"], F.kp, F.bindsN fun _ _ _ _ _ _ us hl => match us, hl with | [_, _], _ => rfl, fn_d (T := tb K w) F sc_Net_ticket fun cdv A outer s H E hr => b_Net_ticket (txt X G c) ((ok_is_name X G c).cl (He.glo_ok X G (c.d.fact 2 (f := .glo "is_name") rfl))) cdv A outer s H E hr⟩
theorem ok_fits {base : Heap} (X : K.In h) (G : h.Ns mainGlobals mg) (c : Mp.SaysE fa fn exK K) : Okd (tb K w) P w mg base (He.fAd K ("fits", none)) 3 3 f_fits := by
  obtain ⟨fd, F⟩ := c.d.def_ 4 (d := d_fits) rfl
  exact ⟨fd, ["net", "ticket", "bits"], F.kp, F.bindsN fun _ _ _ _ _ _ us hl => match us, hl with | [_, _, _], _ => rfl, fn_d (T := tb K w) F sc_fits fun cdv A outer s H E hr => b_fits (txt X G c) ((ok_zone_bits X G c).cl (He.glo_ok X G (c.d.fact 1 (f := .glo "zone_bits") rfl))) ((ok_Net_ticket X G c).mc ((txt X G c).ob.cls 9 (by decide)) (mo_ok (mot c) (c := "Net") (m := "ticket") (b := "Net") (by decide +kernel))) cdv A outer s H E hr⟩
theorem ok_holds_still {base : Heap} (X : K.In h) (G : h.Ns mainGlobals mg) (c : Mp.SaysE fa fn exK K) : Okd (tb K w) P w mg base (He.fAd K ("holds_still", none)) 4 4 f_holds_still := by
  obtain ⟨fd, F⟩ := c.d.def_ 5 (d := d_holds_still) rfl
  exact ⟨fd, ["net", "held", "until", "ride"], F.kp, F.bindsN fun _ _ _ _ _ _ us hl => match us, hl with | [_, _, _, _], _ => rfl, fn_d (T := tb K w) F sc_holds_still fun cdv A outer s H E hr => b_holds_still (txt X G c) ((ok_fits X G c).cl (He.glo_ok X G (c.d.fact 3 (f := .glo "fits") rfl))) cdv A outer s H E hr⟩
theorem ok_keep_least {base : Heap} (X : K.In h) (G : h.Ns mainGlobals mg) (c : Mp.SaysE fa fn exK K) : Okd (tb K w) P w mg base (He.fAd K ("keep_least", none)) 1 3 f_keep_least := by
  obtain ⟨fd, F⟩ := c.d.def_ 6 (d := d_keep_least) rfl
  exact ⟨fd, ["ways", "key", "way"], F.kp, F.bindsN fun _ _ _ _ _ _ us hl => match us, hl with | [_, _, _], _ => rfl, fn_d (T := tb K w) F sc_keep_least fun cdv A outer s H E hr => b_keep_least (txt X G c)  cdv A outer s H E hr⟩
theorem ok_Net_tickets {base : Heap} (X : K.In h) (G : h.Ns mainGlobals mg) (c : Mp.SaysE fa fn exK K) : Okd (tb K w) P w mg base (He.fAd K ("Net", some "tickets")) 1 1 f_Net_tickets := by
  obtain ⟨fd, F⟩ := c.d.def_ 7 (d := d_Net_tickets) rfl
  exact ⟨fd, ["self"], F.kp, F.bindsN fun _ _ _ _ _ _ us hl => match us, hl with | [_], _ => rfl, fn_d (T := tb K w) F sc_Net_tickets fun cdv A outer s H E hr => b_Net_tickets (txt X G c)  cdv A outer s H E hr⟩
theorem ok_behind_ride {base : Heap} (X : K.In h) (G : h.Ns mainGlobals mg) (c : Mp.SaysE fa fn exK K) : Okd (tb K w) P w mg base (He.fAd K ("behind_ride", none)) 5 3 f_behind_ride := by
  obtain ⟨fd, F⟩ := c.d.def_ 8 (d := d_behind_ride) rfl
  exact ⟨fd, ["net", "ride", "ways"], F.kp, F.bindsN fun _ _ _ _ _ _ us hl => match us, hl with | [_, _, _], _ => rfl, fn_d (T := tb K w) F sc_behind_ride fun cdv A outer s H E hr => b_behind_ride (txt X G c) ((ok_holds_still X G c).cl (He.glo_ok X G (c.d.fact 4 (f := .glo "holds_still") rfl))) ((ok_keep_least X G c).cl (He.glo_ok X G (c.d.fact 5 (f := .glo "keep_least") rfl))) ((ok_fits X G c).cl (He.glo_ok X G (c.d.fact 3 (f := .glo "fits") rfl))) ((ok_Net_tickets X G c).mc ((txt X G c).ob.cls 9 (by decide)) (mo_ok (mot c) (c := "Net") (m := "tickets") (b := "Net") (by decide +kernel))) ((ok_Net_ticket X G c).mc ((txt X G c).ob.cls 9 (by decide)) (mo_ok (mot c) (c := "Net") (m := "ticket") (b := "Net") (by decide +kernel))) cdv A outer s H E hr⟩
theorem ok_least_tickets {base : Heap} (X : K.In h) (G : h.Ns mainGlobals mg) (c : Mp.SaysE fa fn exK K) : Okd (tb K w) P w mg base (He.fAd K ("least_tickets", none)) 6 2 f_least_tickets := by
  obtain ⟨fd, F⟩ := c.d.def_ 9 (d := d_least_tickets) rfl
  exact ⟨fd, ["net", "rides"], F.kp, F.bindsN fun _ _ _ _ _ _ us hl => match us, hl with | [_, _], _ => rfl, fn_d (T := tb K w) F sc_least_tickets fun cdv A outer s H E hr => b_least_tickets (txt X G c) ((ok_behind_ride X G c).cl (He.glo_ok X G (c.d.fact 6 (f := .glo "behind_ride") rfl))) cdv A outer s H E hr⟩
theorem ok_need_fresh {base : Heap} (X : K.In h) (G : h.Ns mainGlobals mg) (c : Mp.SaysE fa fn exK K) : Okd (tb K w) P w mg base (He.fAd K ("need_fresh", none)) 2 2 f_need_fresh := by
  obtain ⟨fd, F⟩ := c.d.def_ 10 (d := d_need_fresh) rfl
  exact ⟨fd, ["name", "kept"], F.kp, F.bindsN fun _ _ _ _ _ _ us hl => match us, hl with | [_, _], _ => rfl, fn_d (T := tb K w) F sc_need_fresh fun cdv A outer s H E hr => b_need_fresh (txt X G c) ((ok_is_name X G c).cl (He.glo_ok X G (c.d.fact 2 (f := .glo "is_name") rfl))) cdv A outer s H E hr⟩
theorem ok_need_among {base : Heap} (X : K.In h) (G : h.Ns mainGlobals mg) (c : Mp.SaysE fa fn exK K) : Okd (tb K w) P w mg base (He.fAd K ("need_among", none)) 2 3 f_need_among := by
  obtain ⟨fd, F⟩ := c.d.def_ 11 (d := d_need_among) rfl
  exact ⟨fd, ["thing", "least", "most"], F.kp, F.bindsN fun _ _ _ _ _ _ us hl => match us, hl with | [_, _, _], _ => rfl, fn_d (T := tb K w) F sc_need_among fun cdv A outer s H E hr => b_need_among (txt X G c) ((ok_is_among X G c).cl (He.glo_ok X G (c.d.fact 0 (f := .glo "is_among") rfl))) cdv A outer s H E hr⟩
theorem ok_need_room {base : Heap} (X : K.In h) (G : h.Ns mainGlobals mg) (c : Mp.SaysE fa fn exK K) : Okd (tb K w) P w mg base (He.fAd K ("need_room", none)) 1 2 f_need_room := by
  obtain ⟨fd, F⟩ := c.d.def_ 12 (d := d_need_room) rfl
  exact ⟨fd, ["kept", "most"], F.kp, F.bindsN fun _ _ _ _ _ _ us hl => match us, hl with | [_, _], _ => rfl, fn_d (T := tb K w) F sc_need_room fun cdv A outer s H E hr => b_need_room (txt X G c)  cdv A outer s H E hr⟩
theorem ok_are_zones {base : Heap} (X : K.In h) (G : h.Ns mainGlobals mg) (c : Mp.SaysE fa fn exK K) : Okd (tb K w) P w mg base (He.fAd K ("are_zones", none)) 2 1 f_are_zones := by
  obtain ⟨fd, F⟩ := c.d.def_ 13 (d := d_are_zones) rfl
  exact ⟨fd, ["thing"], F.kp, F.bindsN fun _ _ _ _ _ _ us hl => match us, hl with | [_], _ => rfl, fn_d (T := tb K w) F sc_are_zones fun cdv A outer s H E hr => b_are_zones (txt X G c) ((ok_is_among X G c).cl (He.glo_ok X G (c.d.fact 0 (f := .glo "is_among") rfl))) cdv A outer s H E hr⟩
theorem ok_Net___init__ {base : Heap} (X : K.In h) (G : h.Ns mainGlobals mg) (c : Mp.SaysE fa fn exK K) : Okd (tb K w) P w mg base (He.fAd K ("Net", some "__init__")) 1 1 f_Net___init__ := by
  obtain ⟨fd, F⟩ := c.d.def_ 14 (d := d_Net___init__) rfl
  exact ⟨fd, ["self"], F.kp, F.bindsN fun _ _ _ _ _ _ us hl => match us, hl with | [_], _ => rfl, fn_d (T := tb K w) F sc_Net___init__ fun cdv A outer s H E hr => b_Net___init__ (txt X G c)  cdv A outer s H E hr⟩
theorem ok_Net_add_ticket {base : Heap} (X : K.In h) (G : h.Ns mainGlobals mg) (c : Mp.SaysE fa fn exK K) : Okd (tb K w) P w mg base (He.fAd K ("Net", some "add_ticket")) 3 5 f_Net_add_ticket := by
  obtain ⟨fd, F⟩ := c.d.def_ 15 (d := d_Net_add_ticket) rfl
  exact ⟨fd, ["self", "name", "price", "lasts", "zones"], F.kp, F.bindsN fun _ _ _ _ _ _ us hl => match us, hl with | [_, _, _, _, _], _ => rfl, fn_d (T := tb K w) F sc_Net_add_ticket fun cdv A outer s H E hr => b_Net_add_ticket (txt X G c) ((ok_need_fresh X G c).cl (He.glo_ok X G (c.d.fact 8 (f := .glo "need_fresh") rfl))) ((ok_need_among X G c).cl (He.glo_ok X G (c.d.fact 9 (f := .glo "need_among") rfl))) ((ok_are_zones X G c).cl (He.glo_ok X G (c.d.fact 11 (f := .glo "are_zones") rfl))) ((ok_need_room X G c).cl (He.glo_ok X G (c.d.fact 10 (f := .glo "need_room") rfl))) cdv A outer s H E hr⟩
theorem ok__law_draw {base : Heap} (X : K.In h) (G : h.Ns mainGlobals mg) (c : Mp.SaysE fa fn exK K) : Okd (tb K w) P w mg base (He.fAd K ("_law_draw", none)) 1 2 f__law_draw := by
  obtain ⟨fd, F⟩ := c.d.def_ 16 (d := d__law_draw) rfl
  exact ⟨fd, ["_law_script", "_law_k"], F.kp, F.bindsN fun _ _ _ _ _ _ us hl => match us, hl with | [_, _], _ => rfl, fn_d (T := tb K w) F sc__law_draw fun cdv A outer s H E hr => b__law_draw (txt X G c)  cdv A outer s H E hr⟩
theorem ok__law_whole {base : Heap} (X : K.In h) (G : h.Ns mainGlobals mg) (c : Mp.SaysE fa fn exK K) : Okd (tb K w) P w mg base (He.fAd K ("_law_whole", none)) 1 1 f__law_whole := by
  obtain ⟨fd, F⟩ := c.d.def_ 17 (d := d__law_whole) rfl
  exact ⟨fd, ["_law_found"], F.kp, F.bindsN fun _ _ _ _ _ _ us hl => match us, hl with | [_], _ => rfl, fn_d (T := tb K w) F sc__law_whole fun cdv A outer s H E hr => b__law_whole (txt X G c)  cdv A outer s H E hr⟩
theorem ok__law_names {base : Heap} (X : K.In h) (G : h.Ns mainGlobals mg) (c : Mp.SaysE fa fn exK K) : Okd (tb K w) P w mg base (He.fAd K ("_law_names", none)) 2 3 f__law_names := by
  obtain ⟨fd, F⟩ := c.d.def_ 18 (d := d__law_names) rfl
  exact ⟨fd, ["_law_script", "_law_k", "_law_many"], F.kp, F.bindsN fun _ _ _ _ _ _ us hl => match us, hl with | [_, _, _], _ => rfl, fn_d (T := tb K w) F sc__law_names fun cdv A outer s H E hr => b__law_names (txt X G c) ((ok__law_draw X G c).cl (He.glo_ok X G (c.d.fact 12 (f := .glo "_law_draw") rfl))) cdv A outer s H E hr⟩
theorem ok__law_zones {base : Heap} (X : K.In h) (G : h.Ns mainGlobals mg) (c : Mp.SaysE fa fn exK K) : Okd (tb K w) P w mg base (He.fAd K ("_law_zones", none)) 1 1 f__law_zones := by
  obtain ⟨fd, F⟩ := c.d.def_ 19 (d := d__law_zones) rfl
  exact ⟨fd, ["_law_bits"], F.kp, F.bindsN fun _ _ _ _ _ _ us hl => match us, hl with | [_], _ => rfl, fn_d (T := tb K w) F sc__law_zones fun cdv A outer s H E hr => b__law_zones (txt X G c)  cdv A outer s H E hr⟩
theorem ok__law_tickets {base : Heap} (X : K.In h) (G : h.Ns mainGlobals mg) (c : Mp.SaysE fa fn exK K) : Okd (tb K w) P w mg base (He.fAd K ("_law_tickets", none)) 3 3 f__law_tickets := by
  obtain ⟨fd, F⟩ := c.d.def_ 20 (d := d__law_tickets) rfl
  exact ⟨fd, ["_law_script", "_law_k", "_law_many"], F.kp, F.bindsN fun _ _ _ _ _ _ us hl => match us, hl with | [_, _, _], _ => rfl, fn_d (T := tb K w) F sc__law_tickets fun cdv A outer s H E hr => b__law_tickets (txt X G c) ((ok__law_names X G c).cl (He.glo_ok X G (c.d.fact 14 (f := .glo "_law_names") rfl))) ((ok__law_draw X G c).cl (He.glo_ok X G (c.d.fact 12 (f := .glo "_law_draw") rfl))) ((ok__law_zones X G c).cl (He.glo_ok X G (c.d.fact 15 (f := .glo "_law_zones") rfl))) cdv A outer s H E hr⟩
theorem ok__law_net {base : Heap} (X : K.In h) (G : h.Ns mainGlobals mg) (c : Mp.SaysE fa fn exK K) : Okd (tb K w) P w mg base (He.fAd K ("_law_net", none)) 4 1 f__law_net := by
  obtain ⟨fd, F⟩ := c.d.def_ 21 (d := d__law_net) rfl
  exact ⟨fd, ["_law_tickets_here"], F.kp, F.bindsN fun _ _ _ _ _ _ us hl => match us, hl with | [_], _ => rfl, fn_d (T := tb K w) F sc__law_net fun cdv A outer s H E hr => b__law_net (txt X G c) ((ok_Net_add_ticket X G c).mc ((txt X G c).ob.cls 9 (by decide)) (mo_ok (mot c) (c := "Net") (m := "add_ticket") (b := "Net") (by decide +kernel))) ((ok_Net___init__ X G c).mkr (He.mkr_ok (c.d.fact 25 (f := .mkr "Net") rfl)) (He.glo_ok X G (c.d.fact 51 (f := .glo "Net") rfl))) cdv A outer s H E hr⟩
theorem ok__law_rides {base : Heap} (X : K.In h) (G : h.Ns mainGlobals mg) (c : Mp.SaysE fa fn exK K) : Okd (tb K w) P w mg base (He.fAd K ("_law_rides", none)) 2 3 f__law_rides := by
  obtain ⟨fd, F⟩ := c.d.def_ 22 (d := d__law_rides) rfl
  exact ⟨fd, ["_law_script", "_law_k", "_law_many"], F.kp, F.bindsN fun _ _ _ _ _ _ us hl => match us, hl with | [_, _, _], _ => rfl, fn_d (T := tb K w) F sc__law_rides fun cdv A outer s H E hr => b__law_rides (txt X G c) ((ok__law_draw X G c).cl (He.glo_ok X G (c.d.fact 12 (f := .glo "_law_draw") rfl))) cdv A outer s H E hr⟩
theorem ok__law_edged {base : Heap} (X : K.In h) (G : h.Ns mainGlobals mg) (c : Mp.SaysE fa fn exK K) : Okd (tb K w) P w mg base (He.fAd K ("_law_edged", none)) 2 3 f__law_edged := by
  obtain ⟨fd, F⟩ := c.d.def_ 23 (d := d__law_edged) rfl
  exact ⟨fd, ["_law_script", "_law_tickets_here", "_law_rides_here"], F.kp, F.bindsN fun _ _ _ _ _ _ us hl => match us, hl with | [_, _, _], _ => rfl, fn_d (T := tb K w) F sc__law_edged fun cdv A outer s H E hr => b__law_edged (txt X G c) ((ok__law_draw X G c).cl (He.glo_ok X G (c.d.fact 12 (f := .glo "_law_draw") rfl))) cdv A outer s H E hr⟩
theorem ok__law_crossed {base : Heap} (X : K.In h) (G : h.Ns mainGlobals mg) (c : Mp.SaysE fa fn exK K) : Okd (tb K w) P w mg base (He.fAd K ("_law_crossed", none)) 3 1 f__law_crossed := by
  obtain ⟨fd, F⟩ := c.d.def_ 24 (d := d__law_crossed) rfl
  exact ⟨fd, ["_law_script"], F.kp, F.bindsN fun _ _ _ _ _ _ us hl => match us, hl with | [_], _ => rfl, fn_d (T := tb K w) F sc__law_crossed fun cdv A outer s H E hr => b__law_crossed (txt X G c) ((ok__law_draw X G c).cl (He.glo_ok X G (c.d.fact 12 (f := .glo "_law_draw") rfl))) ((ok__law_names X G c).cl (He.glo_ok X G (c.d.fact 14 (f := .glo "_law_names") rfl))) ((ok__law_zones X G c).cl (He.glo_ok X G (c.d.fact 15 (f := .glo "_law_zones") rfl))) cdv A outer s H E hr⟩
theorem ok__law_spent {base : Heap} (X : K.In h) (G : h.Ns mainGlobals mg) (c : Mp.SaysE fa fn exK K) : Okd (tb K w) P w mg base (He.fAd K ("_law_spent", none)) 2 3 f__law_spent := by
  obtain ⟨fd, F⟩ := c.d.def_ 25 (d := d__law_spent) rfl
  exact ⟨fd, ["_law_tickets_here", "_law_rides_here", "_law_bought"], F.kp, F.bindsN fun _ _ _ _ _ _ us hl => match us, hl with | [_, _, _], _ => rfl, fn_d (T := tb K w) F sc__law_spent fun cdv A outer s H E hr => b__law_spent (txt X G c) ((ok__law_zones X G c).cl (He.glo_ok X G (c.d.fact 15 (f := .glo "_law_zones") rfl))) cdv A outer s H E hr⟩
theorem ok__law_least {base : Heap} (X : K.In h) (G : h.Ns mainGlobals mg) (c : Mp.SaysE fa fn exK K) : Okd (tb K w) P w mg base (He.fAd K ("_law_least", none)) 3 2 f__law_least := by
  obtain ⟨fd, F⟩ := c.d.def_ 26 (d := d__law_least) rfl
  exact ⟨fd, ["_law_tickets_here", "_law_rides_here"], F.kp, F.bindsN fun _ _ _ _ _ _ us hl => match us, hl with | [_, _], _ => rfl, fn_d (T := tb K w) F sc__law_least fun cdv A outer s H E hr => b__law_least (txt X G c) ((ok__law_spent X G c).cl (He.glo_ok X G (c.d.fact 21 (f := .glo "_law_spent") rfl))) cdv A outer s H E hr⟩
theorem ok__law_good {base : Heap} (X : K.In h) (G : h.Ns mainGlobals mg) (c : Mp.SaysE fa fn exK K) : Okd (tb K w) P w mg base (He.fAd K ("_law_good", none)) 7 4 f__law_good := by
  obtain ⟨fd, F⟩ := c.d.def_ 27 (d := d__law_good) rfl
  exact ⟨fd, ["_law_net_here", "_law_tickets_here", "_law_rides_here", "_law_best"], F.kp, F.bindsN fun _ _ _ _ _ _ us hl => match us, hl with | [_, _, _, _], _ => rfl, fn_d (T := tb K w) F sc__law_good fun cdv A outer s H E hr => b__law_good (txt X G c) ((ok_least_tickets X G c).cl (He.glo_ok X G (c.d.fact 7 (f := .glo "least_tickets") rfl))) ((ok__law_whole X G c).cl (He.glo_ok X G (c.d.fact 13 (f := .glo "_law_whole") rfl))) ((ok__law_spent X G c).cl (He.glo_ok X G (c.d.fact 21 (f := .glo "_law_spent") rfl))) cdv A outer s H E hr⟩
theorem facts (X : K.In h) (G : h.Ns mainGlobals mg) (hfa : mg ("law" : Str) = some (.ref f)) (c : Mp.SaysE fa fn exK K) :
    ∃ fd : FuncData, (∀ (s : Shared) (v : Value), BindsTo s fd ⟨[v], []⟩ [("_law_script", v)]) ∧ ∀ base : Heap, K.In base → base.Ns mainGlobals mg → FnOk P w K mg base (L2.CX P w) 8 f fd ["_law_script"] (spD (tb K w) 1 f_law) := by
  obtain ⟨fd, F⟩ := c.d.def_ 28 (d := d_law) rfl
  have e := hfa.symm.trans (He.glo_ok X G (c.d.fact 24 (f := .glo "law") rfl))
  cases e
  have b := FunD.bindsA (ps := ["_law_script"]) F fun _ _ _ _ _ _ us hl => match us, hl with | [_], _ => rfl
  exact ⟨fd, fun s v => b s [v] rfl, fun base _ _ => fn_d (T := tb K w) F sc_law fun cdv A outer s H E hr => b_law (txt X G c) ((ok__law_draw X G c).cl (He.glo_ok X G (c.d.fact 12 (f := .glo "_law_draw") rfl))) ((ok__law_tickets X G c).cl (He.glo_ok X G (c.d.fact 16 (f := .glo "_law_tickets") rfl))) ((ok__law_rides X G c).cl (He.glo_ok X G (c.d.fact 18 (f := .glo "_law_rides") rfl))) ((ok__law_edged X G c).cl (He.glo_ok X G (c.d.fact 19 (f := .glo "_law_edged") rfl))) ((ok__law_crossed X G c).cl (He.glo_ok X G (c.d.fact 20 (f := .glo "_law_crossed") rfl))) ((ok__law_net X G c).cl (He.glo_ok X G (c.d.fact 17 (f := .glo "_law_net") rfl))) ((ok__law_least X G c).cl (He.glo_ok X G (c.d.fact 22 (f := .glo "_law_least") rfl))) ((ok__law_good X G c).cl (He.glo_ok X G (c.d.fact 23 (f := .glo "_law_good") rfl))) cdv A outer s H E hr⟩
end
end Rb
namespace Rb
open PySem PySem.Spec L2 Mp
theorem p_draw {ns : List Int} {k : Int} {s : Sto} (hk : 0 ≤ k ∧ k < 100000) : ∃ x : Int, 0 ≤ x ∧ x < 100000000 ∧ f__law_draw [.scr ns, .int k] s = .ok (.int x) s := by
  have fin : ∀ c : Int, ∃ x : Int, 0 ≤ x ∧ x < 100000000 ∧ x = (c % 1000000007 + 7919 * k + 13) * (c % 1000000007 + 7919 * k + 13) % 1000000007 * (c % 1000000007 + 7919 * k + 13) % 998244353 / 11 := fun c => ⟨_, by omega, by omega, rfl⟩
  have e1 : ∀ i c, cMul i (c % 1000000007 + 7919 * k + 13) = true := fun i c => cMul_r (by omega)
  have e2 : cMul 7919 k = true := cMul_l (by omega)
  cases ns with
  | nil =>
    obtain ⟨x, h1, h2, h3⟩ := fin 0
    refine ⟨x, h1, h2, ?_⟩
    have e3 := e1 (7919 * k + 13) 0
    have e4 := fun i => e1 i 0
    rw [h3]
    simp at e4
    simp [f__law_draw, mkF, g__law_draw, oEq_scr0, lim_eq, e2, e4]
  | cons n ns =>
    have hp : (0 : Int) < ((n :: ns).length : Int) := by rw [List.length_cons]; omega
    obtain ⟨d, h1, v, e⟩ := atI_ex (xs := (n :: ns).map D.int) (i := k % ((n :: ns).length : Int)) (Q := fun d => ∃ v, d = D.int v) (Int.emod_nonneg _ (by omega)) (by
      rw [List.length_map]
      exact Int.emod_lt_of_pos _ hp) (by simp)
    subst e
    obtain ⟨x, q1, q2, q3⟩ := fin v
    refine ⟨x, q1, q2, ?_⟩
    rw [q3]
    simp only [List.map_cons, List.length_cons] at h1
    simp only [List.length_cons] at hp
    push_cast at h1 hp
    simp [f__law_draw, mkF, g__law_draw, oEq_scr0, lim_eq, h1, hp, e1, e2]
/-! ### names -/
abbrev lets : List Nat := [97, 98, 99, 100, 101, 102, 103, 104, 105, 106, 107, 108, 109, 110, 111, 112, 113, 114, 115, 116, 117, 118, 119, 120, 121, 122]
theorem let_at : ∀ i : Fin 26, lets[i.val]? = some (97 + i.val) := by decide
theorem let_atI {i : Int} (h0 : 0 ≤ i) (h1 : i < 26) : atI lets i = some (97 + i.toNat) := by
  rw [atI_int h0 (by show i < 26; exact h1)]
  exact let_at ⟨i.toNat, by omega⟩
def NmOk (z : List Nat) : Prop := z ≠ [] ∧ z.length ≤ 8 ∧ ∀ c ∈ z, 97 ≤ c ∧ c ≤ 122
def ltr (a : Int) (m : Int) (j : Nat) : Nat := 97 + ((a + m * j) % 26).toNat
theorem ltr_ok {a m : Int} {j : Nat} : 97 ≤ ltr a m j ∧ ltr a m j ≤ 122 := by
  unfold ltr
  have h1 := Int.emod_nonneg (a + m * j) (by decide : (26 : Int) ≠ 0)
  have h2 := Int.emod_lt_of_pos (a + m * j) (by decide : (0 : Int) < 26)
  omega
theorem join0 : ∀ ys : List Nat, TL.joinL [] (ys.map fun c => [c]) = ys
  | [] => rfl
  | [c] => rfl
  | c :: d :: ys => by
    have ih := join0 (d :: ys)
    simp only [List.map_cons] at ih ⊢
    show [c] ++ ([] ++ TL.joinL [] ([d] :: ys.map fun c => [c])) = _
    rw [ih]
    rfl
theorem sum1 : ∀ ys : List Nat, ((ys.map fun c => [c]).map List.length).sum = ys.length
  | [] => rfl
  | c :: ys => by
    have := sum1 ys
    simp at this ⊢
    omega
theorem mJoin1 {ys : List Nat} {s : Sto} (h : ys.length ≤ 1000) : mJoin (.str []) [.lst (ys.map fun c => D.str [c])] s = .ok (.str ys) s := by
  have e : ys.map (fun c => D.str [c]) = (ys.map fun c => [c]).map D.str := by rw [List.map_map]; rfl
  rw [e, mJoin_ok (by rw [sum1, lim_eq]; simp; omega), join0]
theorem intsD_map {a : Int} {n : Nat} {α : Type} (f : D → α) : (intsD a n).map f = (List.range n).map fun (i : Nat) => f (.int (a + (i : Int))) := by
  simp [intsD]
theorem mem_ints {a : Int} {n : Nat} {d : D} (h : d ∈ intsD a n) : ∃ i : Nat, i < n ∧ d = .int (a + (i : Int)) := by
  simp [intsD] at h
  obtain ⟨i, h1, h2⟩ := h
  exact ⟨i, h1, h2.symm⟩
/-- letters[(a + m * j) % 26] for j in range(n), slot 9 -/
theorem p_row {δ : Mp.Env} {s : Sto} {n : Nat} {m : Int} {e : DE} {x : Int} (hn : n ≤ 8) (he : ∀ (j : Nat) , j < n → e (δ.set 9 (some (.int (0 + (j : Int))))) s = .ok (.str [ltr x m j]) s) :
    lcL (tgN 9) cYes e δ (intsD 0 n) [] s = .ok (.lst (((List.range n).map (ltr x m)).map fun c => D.str [c])) s := by
  rw [lcL_map (fun d => match d with | .int j => .str [ltr x m j.toNat] | _ => .non) (intsD 0 n) [] (by rw [lim_eq]; simp [intsD]; omega) (by
    intro d hd
    obtain ⟨j, hj, rfl⟩ := mem_ints hd
    refine ⟨_, rfl, ?_⟩
    rw [he j hj]
    simp)]
  rw [intsD_map]
  simp
theorem cut_take {α : Type} {xs : List α} {i : Nat} (h : i ≤ xs.length) : cutL xs none (some (i : Int)) = xs.take i := by
  have := cutL_to (a := xs.take i) (b := xs.drop i) (i := (i : Int)) (by rw [List.length_take]; omega)
  rw [List.take_append_drop] at this
  exact this
theorem cut_drop {α : Type} {xs : List α} {i : Nat} (h : i ≤ xs.length) : cutL xs (some (i : Int)) none = xs.drop i := by
  have := cutL_from (a := xs.take i) (b := xs.drop i) (i := (i : Int)) (by rw [List.length_take]; omega)
  rw [List.take_append_drop] at this
  exact this
theorem nodup_map {α : Type} {f : Nat → α} {n : Nat} (h : ∀ i j, i < n → j < n → f i = f j → i = j) : ((List.range n).map f).Nodup := by
  rw [List.Nodup, List.pairwise_map]
  refine List.Pairwise.imp_of_mem (R := fun a b => a ≠ b) (fun {a b} ha hb hab e => hab (h a b (List.mem_range.mp ha) (List.mem_range.mp hb) e)) ?_
  exact List.nodup_range
theorem seq_step {f g : DS} {δ δ' : Mp.Env} {s s' : Sto} {o : Out} (h1 : f δ s = .nx δ' s') (h2 : g δ' s' = o) : sSeq f g δ s = o := by
  rw [sSeq_eq, h1]
  exact h2
theorem seq_ret {f g : DS} {δ : Mp.Env} {s s' : Sto} {d : D} (h1 : f δ s = .rt d s') : sSeq f g δ s = .rt d s' := by
  rw [sSeq_eq, h1]
  rfl
theorem row_ex {x m : Int} {n : Nat} : ∃ row : List Nat, row = (List.range n).map (ltr x m) ∧ row.length = n ∧ ∀ c ∈ row, 97 ≤ c ∧ c ≤ 122 := by
  refine ⟨_, rfl, by simp, ?_⟩
  intro c hc
  obtain ⟨j, _, rfl⟩ := List.mem_map.mp hc
  exact ltr_ok
theorem c_row {j : Nat} {a : Int} {m : Int} (hm : -100 < m ∧ m < 100) : cMul m (j : Int) = true ∧ atI lets ((a + m * (j : Int)) % 26) = some (ltr a m j) := by
  refine ⟨cMul_l (by omega), ?_⟩
  rw [let_atI (Int.emod_nonneg _ (by decide)) (Int.emod_lt_of_pos _ (by decide))]
  rfl
theorem n_pre {row : List Nat} {many : Nat} {δ : Mp.Env} {s : Sto} (hl : row.length = 8) (hm : many ≤ 8) (hδ : δ[5]? = some (some (.str row))) (h9 : δ.length = 10) :
    lcL (tgN 9) cYes (dSl (dVar 5) pNone (pSome (dOp oAdd (dC (.int 1)) (dVar 9)))) δ (intsD 0 many) [] s = .ok (.lst (((List.range many).map fun j => row.take (1 + j)).map D.str)) s := by
  rw [lcL_map (fun d => match d with | .int j => .str (row.take (1 + j.toNat)) | _ => .non) (intsD 0 many) [] (by rw [lim_eq]; simp [intsD]; omega) (by
    intro d hd
    obtain ⟨j, hj, rfl⟩ := mem_ints hd
    refine ⟨_, rfl, ?_⟩
    have e := cut_take (xs := row) (i := 1 + j) (by omega)
    push_cast at e
    have hl' : row.length ≤ lim := by rw [lim_eq]; omega
    have q1 : (δ.set 9 (some (.int (0 + (j : Int)))))[5]? = some (some (.str row)) := by rw [List.getElem?_set_ne (by decide)]; exact hδ
    have q2 : (δ.set 9 (some (.int (0 + (j : Int)))))[9]? = some (some (.int (0 + (j : Int)))) := List.getElem?_set_self (by omega)
    simp only [dSl_eq, dVar_eq, q1, q2, bind_ok, pNone_eq, pSome_eq, dOp_eq, dC_eq, oAdd_int, oSl_str hl']
    simp [e])]
  rw [intsD_map]
  simp only [List.nil_append, List.map_map]
  congr 2
  refine List.map_congr_left fun i _ => ?_
  simp
theorem n_mid {rest : List Nat} {at_ many : Nat} {x : Int} {δ : Mp.Env} {s : Sto} (hl : rest.length ≤ 7) (ha : at_ ≤ rest.length) (hm : many ≤ 8) (h3 : δ[3]? = some (some (.str lets))) (h4 : δ[4]? = some (some (.int x))) (h7 : δ[7]? = some (some (.int at_))) (h8 : δ[8]? = some (some (.str rest))) (h9 : δ.length = 10) :
    lcL (tgN 9) cYes (dOp oAdd (dOp oAdd (dSl (dVar 8) pNone (pSome (dVar 7))) (dOp oIx (dVar 3) (dOp oMod (dOp oAdd (dOp oDiv (dVar 4) (dC (.int 5616))) (dVar 9)) (dC (.int 26))))) (dSl (dVar 8) (pSome (dVar 7)) pNone)) δ (intsD 0 many) [] s =
      .ok (.lst (((List.range many).map fun j => rest.take at_ ++ [ltr (x / 5616) 1 j] ++ rest.drop at_).map D.str)) s := by
  rw [lcL_map (fun d => match d with | .int j => .str (rest.take at_ ++ [ltr (x / 5616) 1 j.toNat] ++ rest.drop at_) | _ => .non) (intsD 0 many) [] (by rw [lim_eq]; simp [intsD]; omega) (by
    intro d hd
    obtain ⟨j, hj, rfl⟩ := mem_ints hd
    refine ⟨_, rfl, ?_⟩
    have e1 := cut_take (xs := rest) (i := at_) ha
    have e2 := cut_drop (xs := rest) (i := at_) ha
    have hl' : rest.length ≤ lim := by rw [lim_eq]; omega
    have q3 : (δ.set 9 (some (.int (0 + (j : Int)))))[3]? = some (some (.str lets)) := by rw [List.getElem?_set_ne (by decide)]; exact h3
    have q4 : (δ.set 9 (some (.int (0 + (j : Int)))))[4]? = some (some (.int x)) := by rw [List.getElem?_set_ne (by decide)]; exact h4
    have q7 : (δ.set 9 (some (.int (0 + (j : Int)))))[7]? = some (some (.int at_)) := by rw [List.getElem?_set_ne (by decide)]; exact h7
    have q8 : (δ.set 9 (some (.int (0 + (j : Int)))))[8]? = some (some (.str rest)) := by rw [List.getElem?_set_ne (by decide)]; exact h8
    have q9 : (δ.set 9 (some (.int (0 + (j : Int)))))[9]? = some (some (.int (0 + (j : Int)))) := List.getElem?_set_self (by omega)
    have l1 : atI lets ((x / 5616 + (0 + (j : Int))) % 26) = some (ltr (x / 5616) 1 j) := by
      have := (c_row (j := j) (a := x / 5616) (m := 1) (by decide)).2
      rw [Int.one_mul] at this
      rw [Int.zero_add]
      exact this
    have w1 : (rest.take at_).length + 1 ≤ lim := by rw [lim_eq, List.length_take]; omega
    have w2 : (rest.take at_ ++ [ltr (x / 5616) 1 j]).length + (rest.drop at_).length ≤ lim := by rw [lim_eq, List.length_append, List.length_take, List.length_drop]; simp; omega
    have ll : lets.length ≤ lim := by decide
    simp only [Int.zero_add] at q3 q4 q7 q8 q9 l1
    have d1 : (decide ((0 : Int) < 5616) && decide ((5616 : Int) < 1073741824)) = true := by decide
    have d2 : decide ((0 : Int) < 26) = true := by decide
    simp only [dOp_eq, dSl_eq, dVar_eq, q3, q4, q7, q8, q9, bind_ok, pNone_eq, pSome_eq, dC_eq, oInt_int, d1, d2, if_true, oAdd_int, oSl_str hl', e1, e2, oIx_str, ll, l1, oAdd_str, List.length_singleton, w1, w2, Int.zero_add, Int.toNat_natCast])]
  rw [intsD_map]
  simp only [List.nil_append, List.map_map]
  congr 2
  refine List.map_congr_left fun i _ => ?_
  simp
theorem mid_nodup {rest : List Nat} {at_ many : Nat} {a : Int} (ha : at_ ≤ rest.length) (hm : many ≤ 8) : ((List.range many).map fun j => rest.take at_ ++ [ltr a 1 j] ++ rest.drop at_).Nodup := nodup_map fun i j hi hj e => by
  have e2 := List.append_inj_left' e rfl
  have e3 := List.append_cancel_left e2
  have e4 : ltr a 1 i = ltr a 1 j := by simpa using e3
  unfold ltr at e4
  have h1 := Int.emod_nonneg (a + 1 * (i : Int)) (by decide : (26 : Int) ≠ 0)
  have h2 := Int.emod_nonneg (a + 1 * (j : Int)) (by decide : (26 : Int) ≠ 0)
  omega
theorem p_names {ns : List Int} {k M : Int} {many : Nat} {s : Sto} (hk : 0 ≤ k ∧ k < 10000) (hm : many ≤ 8) (hM : M = (many : Int)) : ∃ zs : List (List Nat), zs.length = many ∧ zs.Nodup ∧ (∀ z ∈ zs, NmOk z) ∧ f__law_names [.scr ns, .int k, .int M] s = .ok (.lst (zs.map D.str)) s := by
  obtain ⟨x, x0, x1, e1⟩ := p_draw (ns := ns) (k := k) (s := s) (by omega)
  have sm : small62 M = true := by unfold small62; simp; omega
  have tm : M.toNat = many := by omega
  have s8 : small62 8 = true := by decide
  by_cases h3 : x % 3 = 1
  · obtain ⟨row, hrow, hl, hok⟩ := row_ex (x := x / 3) (m := 5) (n := 8)
    have r1 := p_row (δ := [some (.scr ns), some (.int k), some (.int M), some (.str lets), some (.int x), none, none, none, none, none]) (s := s) (n := 8) (m := 5) (x := x / 3) (e := dOp oIx (dVar 3) (dOp oMod (dOp oAdd (dOp oDiv (dVar 4) (dC (.int 3))) (dOp oMulA (dC (.int 5)) (dVar 9))) (dC (.int 26)))) (by omega) (fun j hj => by
      obtain ⟨c1, l1⟩ := c_row (j := j) (a := x / 3) (m := 5) (by omega)
      simp [lim_eq, c1, l1])
    rw [← hrow] at r1
    have r2 := mJoin1 (ys := row) (s := s) (by omega)
    have r3 := n_pre (row := row) (many := many) (δ := [some (.scr ns), some (.int k), some (.int M), some (.str lets), some (.int x), some (.str row), none, none, none, none]) (s := s) hl hm rfl rfl
    refine ⟨(List.range many).map fun j => row.take (1 + j), by simp, nodup_map fun i j hi hj e => ?_, ?_, ?_⟩
    · have := congrArg List.length e
      rw [List.length_take, List.length_take] at this
      omega
    · intro z hz
      obtain ⟨j, hj, rfl⟩ := List.mem_map.mp hz
      have hj' := List.mem_range.mp hj
      refine ⟨fun q => ?_, by rw [List.length_take]; omega, fun c hc => hok c (List.mem_of_mem_take hc)⟩
      have := congrArg List.length q
      rw [List.length_take, hl] at this
      simp only [List.length_nil] at this
      omega
    · have h3' : (x % 3 == 1) = true := by simpa using h3
      generalize (List.range many).map (fun j => row.take (1 + j)) = zs at r3 ⊢
      have key : g__law_names [some (.scr ns), some (.int k), some (.int M), none, none, none, none, none, none, none] s = .rt (.lst (zs.map D.str)) s := by
        unfold g__law_names
        refine seq_step (δ' := [some (.scr ns), some (.int k), some (.int M), some (.str lets), none, none, none, none, none, none]) (s' := s) (by simp) ?_
        refine seq_step (δ' := [some (.scr ns), some (.int k), some (.int M), some (.str lets), some (.int x), none, none, none, none, none]) (s' := s) (by simp [e1]) ?_
        refine seq_ret ?_
        have i1 : tst (dOp oEq (dOp oMod (dVar 4) (dC (.int 3))) (dC (.int 1))) [some (.scr ns), some (.int k), some (.int M), some (.str lets), some (.int x), none, none, none, none, none] s = .ok true s := by simp [h3']
        rw [sIf_eq, i1]
        simp only [out_ok, if_true]
        refine seq_step (δ' := [some (.scr ns), some (.int k), some (.int M), some (.str lets), some (.int x), some (.str row), none, none, none, none]) (s' := s) (by simp [s8, r1, r2]) ?_
        simp [sm, tm, r3]
      show finO s.length (g__law_names [some (.scr ns), some (.int k), some (.int M), none, none, none, none, none, none, none] s) = _
      rw [key]
      simp
  · have z0 : 0 ≤ x / 3 % 8 := by omega
    have z1 : x / 3 % 8 < 8 := by omega
    obtain ⟨n, hn⟩ := Int.eq_ofNat_of_zero_le z0
    obtain ⟨rest, hrow, hl, hok⟩ := row_ex (x := x / 216) (m := 7) (n := n)
    have r1 := p_row (δ := [some (.scr ns), some (.int k), some (.int M), some (.str lets), some (.int x), none, some (.int (x / 3 % 8)), some (.int (x / 24 % (x / 3 % 8 + 1))), none, none]) (s := s) (n := n) (m := 7) (x := x / 216) (e := dOp oIx (dVar 3) (dOp oMod (dOp oAdd (dOp oDiv (dVar 4) (dC (.int 216))) (dOp oMulA (dC (.int 7)) (dVar 9))) (dC (.int 26)))) (by omega) (fun j hj => by
      obtain ⟨c1, l1⟩ := c_row (j := j) (a := x / 216) (m := 7) (by omega)
      simp [lim_eq, c1, l1])
    rw [← hrow] at r1
    have r2 := mJoin1 (ys := rest) (s := s) (by omega)
    have p1 : 0 < x / 3 % 8 + 1 := by omega
    have y0 : 0 ≤ x / 24 % (x / 3 % 8 + 1) := Int.emod_nonneg _ (by omega)
    have y1 : x / 24 % (x / 3 % 8 + 1) < x / 3 % 8 + 1 := Int.emod_lt_of_pos _ p1
    obtain ⟨at_, hat⟩ := Int.eq_ofNat_of_zero_le y0
    have sn : small62 (x / 3 % 8) = true := by unfold small62; simp; omega
    have r3 := n_mid (rest := rest) (at_ := at_) (many := many) (x := x) (δ := [some (.scr ns), some (.int k), some (.int M), some (.str lets), some (.int x), none, some (.int (x / 3 % 8)), some (.int at_), some (.str rest), none]) (s := s) (by omega) (by omega) hm rfl rfl rfl rfl rfl
    have nd := mid_nodup (rest := rest) (at_ := at_) (many := many) (a := x / 5616) (by omega) hm
    have nm : ∀ z ∈ (List.range many).map (fun j => rest.take at_ ++ [ltr (x / 5616) 1 j] ++ rest.drop at_), NmOk z := by
      intro z hz
      obtain ⟨j, hj, rfl⟩ := List.mem_map.mp hz
      refine ⟨by simp, by simp [List.length_take, List.length_drop]; omega, fun c hc => ?_⟩
      rw [List.mem_append, List.mem_append] at hc
      rcases hc with (hc | hc) | hc
      · exact hok c (List.mem_of_mem_take hc)
      · rw [List.mem_singleton.mp hc]; exact ltr_ok
      · exact hok c (List.mem_of_mem_drop hc)
    have ln : ((List.range many).map (fun j => rest.take at_ ++ [ltr (x / 5616) 1 j] ++ rest.drop at_)).length = many := by simp
    generalize (List.range many).map (fun j => rest.take at_ ++ [ltr (x / 5616) 1 j] ++ rest.drop at_) = zs at r3 nd nm ln
    refine ⟨zs, ln, nd, nm, ?_⟩
    have h3' : (x % 3 == 1) = false := by simpa using h3
    rw [← hat] at r3
    have tn : (x / 3 % 8).toNat = n := by omega
    have key : g__law_names [some (.scr ns), some (.int k), some (.int M), none, none, none, none, none, none, none] s = .rt (.lst (zs.map D.str)) s := by
      unfold g__law_names
      refine seq_step (δ' := [some (.scr ns), some (.int k), some (.int M), some (.str lets), none, none, none, none, none, none]) (s' := s) (by simp) ?_
      refine seq_step (δ' := [some (.scr ns), some (.int k), some (.int M), some (.str lets), some (.int x), none, none, none, none, none]) (s' := s) (by simp [e1]) ?_
      refine seq_step (δ' := [some (.scr ns), some (.int k), some (.int M), some (.str lets), some (.int x), none, none, none, none, none]) (s' := s) (by simp [h3']) ?_
      refine seq_step (δ' := [some (.scr ns), some (.int k), some (.int M), some (.str lets), some (.int x), none, some (.int (x / 3 % 8)), none, none, none]) (s' := s) (by simp) ?_
      refine seq_step (δ' := [some (.scr ns), some (.int k), some (.int M), some (.str lets), some (.int x), none, some (.int (x / 3 % 8)), some (.int (x / 24 % (x / 3 % 8 + 1))), none, none]) (s' := s) (by simp [p1]) ?_
      refine seq_step (δ' := [some (.scr ns), some (.int k), some (.int M), some (.str lets), some (.int x), none, some (.int (x / 3 % 8)), some (.int (x / 24 % (x / 3 % 8 + 1))), some (.str rest), none]) (s' := s) (by simp [sn, tn, r1, r2]) ?_
      simp [sm, tm, r3]
    show finO s.length (g__law_names [some (.scr ns), some (.int k), some (.int M), none, none, none, none, none, none, none] s) = _
    rw [key]
    simp
end Rb
namespace Rb
open PySem PySem.Spec L2 Mp
/-! ### zones as bits -/
def zb (z : Int) : Int := if z = 1 then 1 else if z = 2 then 2 else if z = 3 then 4 else if z = 4 then 8 else if z = 5 then 16 else 32
def inZ (b z : Int) : Bool := b / zb z % 2 == 1
def zs6 : List Int := [1, 2, 3, 4, 5, 6]
def zonesOf (b : Int) : List Int := zs6.filter (inZ b)
theorem zs6_mem {z : Int} (h : z ∈ zs6) : z = 1 ∨ z = 2 ∨ z = 3 ∨ z = 4 ∨ z = 5 ∨ z = 6 := by simpa [zs6] using h
theorem p_zones {b : Int} {s : Sto} : f__law_zones [.int b] s = .ok (.lst ((zonesOf b).map D.int)) s := by
  have r := lcL_fil (s := s) (δ := [some (.int b), none]) (t := tgN 1) (c := tst (dOp oEq (dOp oMod (dOp oDiv (dVar 0) (dOp oIx (dLst (aCons (dC (.int 1)) (aCons (dC (.int 2)) (aCons (dC (.int 4)) (aCons (dC (.int 8)) (aCons (dC (.int 16)) (aCons (dC (.int 32)) aNil))))))) (dOp oSub (dVar 1) (dC (.int 1))))) (dC (.int 2))) (dC (.int 1)))) (e := dVar 1) id (fun d => match d with | .int z => inZ b z | _ => false) (zs6.map D.int) [] (by rw [lim_eq]; decide) (by
    intro d hd
    obtain ⟨z, hz, rfl⟩ := List.mem_map.mp hd
    refine ⟨_, rfl, ?_, fun _ => by simp⟩
    rcases zs6_mem hz with h | h | h | h | h | h <;> subst h <;> simp [lim_eq, inZ, zb])
  have e1 : intsD 1 6 = zs6.map D.int := rfl
  have e2 : ((zs6.map D.int).filter (fun d => match d with | .int z => inZ b z | _ => false)).map id = (zonesOf b).map D.int := by
    rw [List.map_id, List.filter_map]
    rfl
  rw [e2] at r
  have s1 : small62 1 = true := by decide
  have s7 : small62 7 = true := by decide
  simp only [List.nil_append] at r
  simp [f__law_zones, mkF, g__law_zones, s1, s7, e1]
  rw [r]
  simp
def orZ (a z : Int) : Int := Builtin.bitOr a (1 * 2 ^ (z - 1).toNat)
theorem or_fold : ∀ b : Fin 64, (zonesOf (b.val : Int)).foldl orZ 0 = (b.val : Int) := by decide +kernel
theorem fit_all : ∀ b c : Fin 64, (Builtin.bitAnd (b.val : Int) (c.val : Int) == (b.val : Int)) = ((zonesOf (b.val : Int)).filter fun z => !decide (z ∈ zonesOf (c.val : Int))).isEmpty := by decide +kernel
def okB (b : Int) : Prop := 1 ≤ b ∧ b ≤ 63
def fitsZ (b c : Int) : Bool := ((zonesOf b).filter fun z => !decide (z ∈ zonesOf c)).isEmpty
theorem fin_of {b : Int} (h : okB b) : ∃ f : Fin 64, (f.val : Int) = b := ⟨⟨b.toNat, by unfold okB at h; omega⟩, by unfold okB at h; simp; omega⟩
theorem fits_eq {b c : Int} (hb : okB b) (hc : okB c) : (Builtin.bitAnd b c == b) = fitsZ b c := by
  obtain ⟨f, rfl⟩ := fin_of hb
  obtain ⟨g, rfl⟩ := fin_of hc
  exact fit_all f g
theorem zb_loop {s : Sto} {a : Option D} : ∀ (zs : List Int) (x : Int) (z : Option D), (∀ z ∈ zs, 1 ≤ z ∧ z ≤ 6) → ∃ z', forL (tgN 2) g_zone_bits_b1 (zs.map D.int) [a, some (.int x), z] s = .nx [a, some (.int (zs.foldl orZ x)), z'] s
  | [], x, z, _ => ⟨z, rfl⟩
  | y :: ys, x, z, h => by
    have hy := h y List.mem_cons_self
    obtain ⟨z', e⟩ := zb_loop (s := s) (a := a) ys (orZ x y) (some (.int y)) fun w hw => h w (List.mem_cons_of_mem _ hw)
    refine ⟨z', ?_⟩
    have c1 : cPow 1 (y - 1) = true := by unfold cPow; simp; omega
    rw [List.map_cons, forL_next (δ1 := [a, some (.int x), some (.int y)]) (δ2 := [a, some (.int (orZ x y)), some (.int y)]) (s2 := s) rfl (by simp [g_zone_bits_b1, c1, orZ]), e]
    rfl
theorem p_bits {b : Int} {s : Sto} (hb : okB b) : f_zone_bits [.lst ((zonesOf b).map D.int)] s = .ok (.int b) s := by
  obtain ⟨z', e⟩ := zb_loop (s := s) (a := some (.lst ((zonesOf b).map D.int))) (zonesOf b) 0 none (fun z hz => by
    have := zs6_mem ((List.mem_filter.mp hz).1)
    omega)
  have e2 : (zonesOf b).foldl orZ 0 = b := by
    obtain ⟨f, rfl⟩ := fin_of hb
    exact or_fold f
  rw [e2] at e
  simp [f_zone_bits, mkF, g_zone_bits, e]
/-! ### names, zones that rise -/
theorem sign_in {c : Nat} : decide (c ∈ lets) = (decide (97 ≤ c) && decide (c ≤ 122)) := by
  by_cases h : 97 ≤ c ∧ c ≤ 122
  · have : ∀ i : Fin 26, (97 + i.val) ∈ lets := by decide
    have := this ⟨c - 97, by omega⟩
    simp only at this
    rw [show 97 + (c - 97) = c by omega] at this
    simp only [this, decide_true, h.1, h.2, Bool.and_self]
  · rw [show (decide (97 ≤ c) && decide (c ≤ 122)) = false by simpa using fun a b => h ⟨a, b⟩]
    refine decide_eq_false fun hm => h ?_
    have : ∀ x ∈ lets, 97 ≤ x ∧ x ≤ 122 := by decide
    exact this c hm
theorem p_isname {z : List Nat} {s : Sto} (h : NmOk z) : f_is_name [.str z] s = .ok (.bl true) s := by
  obtain ⟨h1, h2, h3⟩ := h
  have i1 : bIsO parT parA csT [.str z, .ty "str"] s = .ok (.bl true) s := iso_ty (t := "str") rfl kit_ss
  have hl : 0 < z.length := List.length_pos_iff.mpr h1
  have hl1 : (1 : Int) ≤ z.length := by omega
  have hl2 : (z.length : Int) ≤ 8 := by omega
  have hl3 : z.length ≤ lim := by rw [lim_eq]; omega
  have hc := lcL_map (s := s) (δ := [some (.str z), none]) (t := tgN 1) (e := dOp (oInA false) (dVar 1) (dC (.str lets))) (fun _ => D.bl true) (z.map fun c => D.str [c]) [] (by rw [lim_eq]; simp; omega) (by
    intro d hd
    obtain ⟨c, hc, rfl⟩ := List.mem_map.mp hd
    refine ⟨_, rfl, ?_⟩
    have := h3 c hc
    have e := sign_in (c := c)
    rw [decide_eq_true this.1, decide_eq_true this.2] at e
    simp only [dOp_eq, dVar_eq, List.set, List.getElem?_cons_succ, List.getElem?_cons_zero, bind_ok, dC_eq, oInA_sign, e]
    rfl)
  have ha : bAll [.lst ([] ++ (z.map fun c => D.str [c]).map fun _ => D.bl true)] s = .ok (.bl true) s := bAll_true (by
    intro x hx
    rw [List.nil_append] at hx
    obtain ⟨_, _, e⟩ := List.mem_map.mp hx
    exact e.symm)
  have key : g_is_name [some (.str z), none] s = .rt (.bl true) s := by
    unfold g_is_name
    refine seq_step (δ' := [some (.str z), none]) (s' := s) (by simp [i1, hl3, hl1, hl2]) ?_
    simp only [sRet_eq, dBi_eq, aCons_eq, dLc_eq, itAny_eq, dVar_eq, List.getElem?_cons_zero, bind_ok, wipeE_cons, wipeE_nil, List.set, aNil_eq]
    rw [hc]
    simp only [bind_ok, ha, out_ok]
  show finO s.length (g_is_name [some (.str z), none] s) = _
  rw [key]
  simp
def allZ (xs : List Int) : Bool := (xs.zip (xs.drop 1)).all fun p => decide (p.1 < p.2)
theorem zones_rise : ∀ b : Fin 64, b.val ≠ 0 → allZ (zonesOf (b.val : Int)) = true ∧ 1 ≤ (zonesOf (b.val : Int)).length ∧ (zonesOf (b.val : Int)).length ≤ 6 := by decide +kernel
theorem zipD_ints : ∀ xs ys : List Int, zipD (xs.map D.int) (ys.map D.int) = (xs.zip ys).map fun p => D.tup [.int p.1, .int p.2]
  | [], ys => by simp [zipD]
  | x :: xs, [] => by simp [zipD]
  | x :: xs, y :: ys => by
    rw [List.map_cons, List.map_cons]
    show _ :: zipD _ _ = _
    rw [zipD_ints xs ys]
    rfl
theorem p_among {a lo hi : Int} {s : Sto} : f_is_among [.int a, .int lo, .int hi] s = .ok (.bl (decide (lo ≤ a) && decide (a ≤ hi))) s := by
  have i1 : bIsO parT parA csT [.int a, .ty "int"] s = .ok (.bl true) s := iso_ty (t := "int") rfl kit_ii
  have i2 : bIsO parT parA csT [.int a, .ty "bool"] s = .ok (.bl false) s := iso_ty (t := "int") rfl kit_ib
  simp [f_is_among, mkF, g_is_among, i1, i2]
  by_cases h : lo ≤ a <;> simp [h]
theorem p_arez {b : Int} {s : Sto} (hb : okB b) : f_are_zones [.lst ((zonesOf b).map D.int)] s = .ok (.bl true) s := by
  obtain ⟨f, hf⟩ := fin_of hb
  have hz := zones_rise f (by unfold okB at hb; omega)
  rw [hf] at hz
  have hm : ∀ z ∈ zonesOf b, 1 ≤ z ∧ z ≤ 6 := fun z hz => by
    have := zs6_mem ((List.mem_filter.mp hz).1)
    omega
  generalize zonesOf b = zs at hz hm
  obtain ⟨h1, h2, h3⟩ := hz
  have i1 : bIsO parT parA csT [.lst (zs.map D.int), .ty "list"] s = .ok (.bl true) s := iso_ty (t := "list") rfl kit_ll
  have hl1 : (1 : Int) ≤ zs.length := by omega
  have hl2 : (zs.length : Int) ≤ 6 := by omega
  have c1 := lcL_map (s := s) (δ := [some (.lst (zs.map D.int)), none, none, none]) (t := tgN 1) (e := dCall f_is_among (aCons (dVar 1) (aCons (dC (.int 1)) (aCons (dC (.int 6)) aNil)))) (fun _ => D.bl true) (zs.map D.int) [] (by rw [lim_eq]; simp; omega) (by
    intro d hd
    obtain ⟨x, hx, rfl⟩ := List.mem_map.mp hd
    refine ⟨_, rfl, ?_⟩
    have := hm x hx
    simp [p_among, this.1, this.2])
  have a1 : bAll [.lst ([] ++ (zs.map D.int).map fun _ => D.bl true)] s = .ok (.bl true) s := bAll_true (by
    intro x hx
    rw [List.nil_append] at hx
    obtain ⟨_, _, e⟩ := List.mem_map.mp hx
    exact e.symm)
  have e1 : cutL (zs.map D.int) (some 1) none = (zs.drop 1).map D.int := by
    have := cut_drop (xs := zs.map D.int) (i := 1) (by simp; omega)
    rw [List.map_drop]
    exact this
  have c2 := lcL_map (s := s) (δ := [some (.lst (zs.map D.int)), none, none, none]) (t := tgT [tgN 2, tgN 3]) (e := dOp oLt (dVar 2) (dVar 3)) (fun _ => D.bl true) ((zs.zip (zs.drop 1)).map fun p => D.tup [.int p.1, .int p.2]) [] (by rw [lim_eq]; simp; omega) (by
    intro d hd
    obtain ⟨p, hp, rfl⟩ := List.mem_map.mp hd
    refine ⟨_, rfl, ?_⟩
    have := List.all_eq_true.mp h1 p hp
    simp at this
    simp [this])
  have a2 : bAll [.lst ([] ++ ((zs.zip (zs.drop 1)).map fun p => D.tup [.int p.1, .int p.2]).map fun _ => D.bl true)] s = .ok (.bl true) s := bAll_true (by
    intro x hx
    rw [List.nil_append] at hx
    obtain ⟨_, _, e⟩ := List.mem_map.mp hx
    exact e.symm)
  have key : g_are_zones [some (.lst (zs.map D.int)), none, none, none] s = .rt (.bl true) s := by
    unfold g_are_zones
    refine seq_step (δ' := [some (.lst (zs.map D.int)), none, none, none]) (s' := s) (by simp [i1, hl1, hl2]) ?_
    refine seq_step (δ' := [some (.lst (zs.map D.int)), none, none, none]) (s' := s) (by
      simp only [sIf_eq, tNot_eq, tst_eq, dBi_eq, aCons_eq, dLc_eq, itAny_eq, dVar_eq, List.getElem?_cons_zero, bind_ok, wipeE_cons, wipeE_nil, List.set, aNil_eq]
      rw [c1]
      simp only [bind_ok, a1, out_ok, Bool.not_true, Bool.false_eq_true, if_false, sPass_eq]) ?_
    simp only [sRet_eq, dBi_eq, aCons_eq, dLc_eq, itZip_eq, dSl_eq, pSome_eq, pNone_eq, dC_eq, dVar_eq, List.getElem?_cons_zero, bind_ok, wipeE_cons, wipeE_nil, List.set, aNil_eq, oSl, lqOf_lst, e1, zipD_ints]
    rw [c2]
    simp only [bind_ok, a2, out_ok]
  show finO s.length (g_are_zones [some (.lst (zs.map D.int)), none, none, none] s) = _
  rw [key]
  simp
end Rb
namespace Rb
open PySem PySem.Spec L2 Mp
structure Tk where
  nm : List Nat
  pr : Int
  la : Int
  b : Int
def Tk.d (t : Tk) : D := .tup [.str t.nm, .int t.pr, .int t.la, .lst ((zonesOf t.b).map D.int)]
def Tk.n (t : Tk) : D := .tup [.int t.pr, .int t.la, .tup ((zonesOf t.b).map D.int)]
def Tk.ok (t : Tk) : Prop := NmOk t.nm ∧ (0 ≤ t.pr ∧ t.pr ≤ 10000) ∧ (1 ≤ t.la ∧ t.la ≤ 1440) ∧ okB t.b
theorem tk_loop {ns : List Int} {k M : Int} (hk : 0 ≤ k ∧ k < 1000) : ∀ (zs : List (List Nat)) (i : Nat) (acc : List Tk) (o4 o5 o6 o7 o8 o9 : Option D), (∀ z ∈ zs, NmOk z) → i + zs.length ≤ 10 → acc.length + zs.length ≤ 10 →
    ∃ ts : List Tk, ∃ p4 p5 p6 p7 p8 p9, ts.map Tk.nm = zs ∧ (∀ t ∈ ts, t.ok) ∧
      forL (tgT [tgN 4, tgN 5]) g__law_tickets_b1 (enD i (zs.map D.str)) [some (.scr ns), some (.int k), some (.int M), some (.loc 0), o4, o5, o6, o7, o8, o9] [.lst (acc.map Tk.d)] =
        .nx [some (.scr ns), some (.int k), some (.int M), some (.loc 0), p4, p5, p6, p7, p8, p9] [.lst ((acc ++ ts).map Tk.d)]
  | [], i, acc, o4, o5, o6, o7, o8, o9, _, _, _ => ⟨[], o4, o5, o6, o7, o8, o9, rfl, (fun t ht => nomatch ht), by simp [enD]⟩
  | z :: zs, i, acc, o4, o5, o6, o7, o8, o9, hz, hi, ha => by
    rw [List.length_cons] at hi ha
    obtain ⟨x, x0, x1, e1⟩ := p_draw (ns := ns) (k := k + 1 + i) (s := [.lst (acc.map Tk.d)]) (by omega)
    obtain ⟨m1, h1, v, rfl, hv⟩ := atI_ex (xs := [D.int 4, D.int 101, D.int 101, D.int 10001]) (i := x / 16 % 4) (Q := fun d => ∃ v, d = .int v ∧ 0 < v ∧ v ≤ 10001) (by omega) (by simp; omega) (by simp)
    obtain ⟨m2, h2, w, rfl, hw⟩ := atI_ex (xs := [D.int 60, D.int 240, D.int 1440]) (i := x / 4096 % 3) (Q := fun d => ∃ v, d = .int v ∧ 0 < v ∧ v ≤ 1440) (by omega) (by simp; omega) (by simp)
    obtain ⟨m3, h3, b, rfl, hb⟩ := atI_ex (xs := [D.int 63, D.int (1 + x / 1024 % 63)]) (i := x / 512 % 2) (Q := fun d => ∃ v, d = .int v ∧ okB v) (by omega) (by simp; omega) (by
      intro d hd
      simp only [List.mem_cons, List.not_mem_nil, or_false] at hd
      rcases hd with rfl | rfl
      · exact ⟨_, rfl, by unfold okB; omega⟩
      · exact ⟨_, rfl, by unfold okB; omega⟩)
    have q1 : 0 ≤ x % v := Int.emod_nonneg _ (by omega)
    have q2 : x % v < v := Int.emod_lt_of_pos _ hv.1
    have q3 : 0 ≤ x / 64 % w := Int.emod_nonneg _ (by omega)
    have q4 : x / 64 % w < w := Int.emod_lt_of_pos _ hw.1
    let t : Tk := ⟨z, x % v, 1 + x / 64 % w, b⟩
    have ht : t.ok := ⟨hz z List.mem_cons_self, ⟨q1, by show x % v ≤ 10000; omega⟩, ⟨by show 1 ≤ 1 + x / 64 % w; omega, by show 1 + x / 64 % w ≤ 1440; omega⟩, hb⟩
    obtain ⟨ts, p4, p5, p6, p7, p8, p9, g1, g2, g3⟩ := tk_loop (ns := ns) (M := M) hk zs (i + 1) (acc ++ [t]) (some (.int i)) (some (.str z)) (some (.int x)) (some (.int (x % v))) (some (.int (1 + x / 64 % w))) (some (.int b)) (fun y hy => hz y (List.mem_cons_of_mem _ hy)) (by omega) (by simp; omega)
    refine ⟨t :: ts, p4, p5, p6, p7, p8, p9, by simp [g1, t], fun y hy => ?_, ?_⟩
    · rcases List.mem_cons.mp hy with rfl | hy
      · exact ht
      · exact g2 y hy
    · have hl : acc.length < 1000000 := by omega
      rw [List.map_cons]
      show forL _ _ (.tup [.int (i : Int), .str z] :: enD (i + 1) (zs.map D.str)) _ _ = _
      rw [forL_next (δ1 := [some (.scr ns), some (.int k), some (.int M), some (.loc 0), some (.int i), some (.str z), o6, o7, o8, o9]) (δ2 := [some (.scr ns), some (.int k), some (.int M), some (.loc 0), some (.int i), some (.str z), some (.int x), some (.int (x % v)), some (.int (1 + x / 64 % w)), some (.int b)]) (s2 := [.lst ((acc ++ [t]).map Tk.d)]) rfl (by
        simp [g__law_tickets_b1, e1, h1, h2, h3, hv.1, hw.1, lim_eq, p_zones, hl, Tk.d, t])]
      rw [g3]
      simp
theorem p_tickets {ns : List Int} {k M : Int} {many : Nat} (hk : 0 ≤ k ∧ k < 1000) (hm : many ≤ 8) (hM : M = (many : Int)) : ∃ ts : List Tk, ts.length = many ∧ (ts.map Tk.nm).Nodup ∧ (∀ t ∈ ts, t.ok) ∧ f__law_tickets [.scr ns, .int k, .int M] [] = .ok (.lst (ts.map Tk.d)) [] := by
  obtain ⟨zs, z1, z2, z3, e1⟩ := p_names (ns := ns) (k := k) (s := [.lst []]) (by omega) hm hM
  obtain ⟨ts, p4, p5, p6, p7, p8, p9, g1, g2, g3⟩ := tk_loop (ns := ns) (k := k) (M := M) hk zs 0 [] none none none none none none z3 (by omega) (by simp; omega)
  refine ⟨ts, by rw [← z1, ← g1]; simp, by rw [g1]; exact z2, g2, ?_⟩
  have key : g__law_tickets [some (.scr ns), some (.int k), some (.int M), none, none, none, none, none, none, none] [] = .rt (.lst (ts.map Tk.d)) [.dead] := by
    unfold g__law_tickets
    refine seq_step (δ' := [some (.scr ns), some (.int k), some (.int M), some (.loc 0), none, none, none, none, none, none]) (s' := [.lst []]) (by simp [lim_eq]) ?_
    refine seq_step (δ' := [some (.scr ns), some (.int k), some (.int M), some (.loc 0), p4, p5, p6, p7, p8, p9]) (s' := [.lst (ts.map Tk.d)]) (by
      simp only [sFor_eq, itEnum_eq, aCons_eq, dCall_eq, dVar_eq, List.getElem?_cons_zero, List.getElem?_cons_succ, bind_ok, aNil_eq, e1, out_ok]
      simpa using g3) ?_
    refine seq_step (δ' := [some (.scr ns), some (.int k), some (.int M), some (.lst (ts.map Tk.d)), p4, p5, p6, p7, p8, p9]) (s' := [.dead]) (by rfl) ?_
    simp
  show finO 0 (g__law_tickets [some (.scr ns), some (.int k), some (.int M), none, none, none, none, none, none, none] []) = _
  rw [key]
  have hb : below 0 (.lst (ts.map Tk.d)) = true := by
    show belows 0 (ts.map Tk.d) = true
    have : ∀ l : List Tk, belows 0 (l.map Tk.d) = true := fun l => by
      induction l with
      | nil => rfl
      | cons t l ih =>
        rw [List.map_cons]
        show (below 0 t.d && belows 0 (l.map Tk.d)) = true
        rw [ih]
        simp [Tk.d, below, belows, below_ints]
    exact this ts
  show cut 0 (.lst (ts.map Tk.d)) [.dead] = _
  unfold Mp.cut
  rw [if_neg (by decide), if_pos (by simp [hb])]
  rfl
end Rb
namespace Rb
open PySem PySem.Spec L2 Mp
/-! ### the net -/
abbrev NetO : Cell := .obj 9 [0, 1, 2, 3, 4] [.loc 1, .loc 2, .loc 3, .loc 4, .loc 5]
abbrev kys (ts : List Tk) : List D := ts.map fun t => D.str t.nm
abbrev vls (ts : List Tk) : List D := ts.map Tk.n
abbrev NetS (ts : List Tk) (r : Sto) : Sto := NetO :: .dct [] [] :: .lst [] :: .dct [] [] :: .dct (kys ts) (vls ts) :: .dct [] [] :: r
theorem p_init : mkO 9 f_Net___init__ [] [] = .ok (.loc 0) (NetS [] []) := by rfl
theorem lk_no {z : List Nat} : ∀ {ts : List Tk}, z ∉ ts.map Tk.nm → lkD (.str z) (kys ts) (vls ts) = none ∧ ((kys ts).any fun c => eqK c (.str z)) = false
  | [], _ => ⟨rfl, rfl⟩
  | t :: ts, h => by
    rw [List.map_cons, List.mem_cons, not_or] at h
    obtain ⟨h1, h2⟩ := lk_no (ts := ts) h.2
    have e : (t.nm == z) = false := by
      rw [beq_eq_false_iff_ne]
      exact fun q => h.1 q.symm
    refine ⟨?_, ?_⟩
    · show (if eqK (.str t.nm) (.str z) = true then _ else lkD (.str z) (kys ts) (vls ts)) = none
      rw [eqK_str, e, if_neg Bool.false_ne_true]
      exact h1
    · show (eqK (.str t.nm) (.str z) || (kys ts).any fun c => eqK c (.str z)) = false
      rw [eqK_str, e, h2]
      rfl
theorem lk_yes : ∀ {ts : List Tk} {t : Tk}, (ts.map Tk.nm).Nodup → t ∈ ts → lkD (.str t.nm) (kys ts) (vls ts) = some t.n
  | [], t, _, h => by cases h
  | u :: ts, t, nd, h => by
    rw [List.map_cons] at nd
    obtain ⟨n1, n2⟩ := List.nodup_cons.mp nd
    show (if eqK (.str u.nm) (.str t.nm) = true then some u.n else lkD (.str t.nm) (kys ts) (vls ts)) = _
    rcases List.mem_cons.mp h with rfl | h
    · rw [eqK_str, if_pos (by simp)]
    · have : (u.nm == t.nm) = false := by
        rw [beq_eq_false_iff_ne]
        exact fun q => n1 (by rw [q]; exact List.mem_map_of_mem h)
      rw [eqK_str, this, if_neg Bool.false_ne_true]
      exact lk_yes n2 h
theorem p_need {a lo hi : Int} {s : Sto} (h : lo ≤ a ∧ a ≤ hi) : f_need_among [.int a, .int lo, .int hi] s = .ok .non s := by
  simp [f_need_among, mkF, g_need_among, p_among, h]
theorem p_add {ts : List Tk} {t : Tk} (ht : t.ok) (hn : t.nm ∉ ts.map Tk.nm) (hl : ts.length < 3) :
    f_Net_add_ticket [.loc 0, .str t.nm, .int t.pr, .int t.la, .lst ((zonesOf t.b).map D.int)] (NetS ts []) = .ok .non (NetS (ts ++ [t]) []) := by
  obtain ⟨h1, h2, h3, h4⟩ := ht
  obtain ⟨l1, l2⟩ := lk_no hn
  have e1 : f_need_fresh [.str t.nm, .loc 4] (NetS ts []) = .ok .non (NetS ts []) := by
    simp [f_need_fresh, mkF, g_need_fresh, p_isname h1, l1]
  have e2 := p_need (s := NetS ts []) h2
  have e3 := p_need (s := NetS ts []) h3
  have e4 := p_arez (s := NetS ts []) h4
  have e5 : f_need_room [.loc 4, .int 3] (NetS ts []) = .ok .non (NetS ts []) := by
    have : ¬ (3 : Int) ≤ ts.length := by omega
    simp [f_need_room, mkF, g_need_room, bLenA_loc (n := 4) (s := NetS ts []) rfl, this]
  have e6 : setK (.str t.nm) (kys ts) = kys (ts ++ [t]) := by
    unfold setK
    rw [l2]
    simp [kys]
  have e7 : setD (.str t.nm) t.n (kys ts) (vls ts) = vls (ts ++ [t]) := by
    unfold setD
    rw [l2]
    simp [vls]
  have key : g_Net_add_ticket [some (.loc 0), some (.str t.nm), some (.int t.pr), some (.int t.la), some (.lst ((zonesOf t.b).map D.int))] (NetS ts []) = .nx [some (.loc 0), some (.str t.nm), some (.int t.pr), some (.int t.la), some (.lst ((zonesOf t.b).map D.int))] (NetS (ts ++ [t]) []) := by
    unfold g_Net_add_ticket
    refine seq_step (δ' := [some (.loc 0), some (.str t.nm), some (.int t.pr), some (.int t.la), some (.lst ((zonesOf t.b).map D.int))]) (s' := NetS ts []) (by simp [e1]) ?_
    refine seq_step (δ' := [some (.loc 0), some (.str t.nm), some (.int t.pr), some (.int t.la), some (.lst ((zonesOf t.b).map D.int))]) (s' := NetS ts []) (by simp [e2]) ?_
    refine seq_step (δ' := [some (.loc 0), some (.str t.nm), some (.int t.pr), some (.int t.la), some (.lst ((zonesOf t.b).map D.int))]) (s' := NetS ts []) (by simp [e3]) ?_
    refine seq_step (δ' := [some (.loc 0), some (.str t.nm), some (.int t.pr), some (.int t.la), some (.lst ((zonesOf t.b).map D.int))]) (s' := NetS ts []) (by simp [e4]) ?_
    refine seq_step (δ' := [some (.loc 0), some (.str t.nm), some (.int t.pr), some (.int t.la), some (.lst ((zonesOf t.b).map D.int))]) (s' := NetS ts []) (by simp [e5]) ?_
    have hl2 : ts.length < 1000 := by omega
    simp only [Tk.n] at e7
    simp [lim_eq, hl2, e6, e7]
  show finO 6 (g_Net_add_ticket [some (.loc 0), some (.str t.nm), some (.int t.pr), some (.int t.la), some (.lst ((zonesOf t.b).map D.int))] (NetS ts [])) = _
  rw [key]
  rfl
theorem net_loop : ∀ (us ts : List Tk) (a o2 o3 o4 o5 : Option D), (∀ t ∈ us, t.ok) → ((ts ++ us).map Tk.nm).Nodup → (ts ++ us).length ≤ 3 → ∃ p2 p3 p4 p5,
    forL (tgT [tgN 2, tgN 3, tgN 4, tgN 5]) g__law_net_b1 (us.map Tk.d) [a, some (.loc 0), o2, o3, o4, o5] (NetS ts []) = .nx [a, some (.loc 0), p2, p3, p4, p5] (NetS (ts ++ us) [])
  | [], ts, a, o2, o3, o4, o5, _, _, _ => ⟨o2, o3, o4, o5, by simp⟩
  | t :: us, ts, a, o2, o3, o4, o5, ho, nd, hl => by
    have e1 : ts ++ t :: us = (ts ++ [t]) ++ us := by simp
    rw [e1] at nd hl ⊢
    have hn : t.nm ∉ ts.map Tk.nm := by
      rw [List.map_append, List.map_append] at nd
      have := (List.nodup_append.mp (List.nodup_append.mp nd).1).2.2
      intro q
      exact this _ q _ (by simp) rfl
    have k1 := p_add (ho t List.mem_cons_self) hn (by simp at hl; omega)
    obtain ⟨p2, p3, p4, p5, e⟩ := net_loop us (ts ++ [t]) a (some (.str t.nm)) (some (.int t.pr)) (some (.int t.la)) (some (.lst ((zonesOf t.b).map D.int))) (fun y hy => ho y (List.mem_cons_of_mem _ hy)) nd hl
    refine ⟨p2, p3, p4, p5, ?_⟩
    rw [List.map_cons, forL_next (δ1 := [a, some (.loc 0), some (.str t.nm), some (.int t.pr), some (.int t.la), some (.lst ((zonesOf t.b).map D.int))]) (δ2 := [a, some (.loc 0), some (.str t.nm), some (.int t.pr), some (.int t.la), some (.lst ((zonesOf t.b).map D.int))]) (s2 := NetS (ts ++ [t]) []) rfl (by
      simp [g__law_net_b1, dMeth_eq, List.lookup, k1])]
    exact e
theorem p_net {ts : List Tk} (ho : ∀ t ∈ ts, t.ok) (nd : (ts.map Tk.nm).Nodup) (hl : ts.length ≤ 3) : f__law_net [.lst (ts.map Tk.d)] [] = .ok (.loc 0) (NetS ts []) := by
  obtain ⟨p2, p3, p4, p5, e⟩ := net_loop ts [] (some (.lst (ts.map Tk.d))) none none none none ho nd hl
  have key : g__law_net [some (.lst (ts.map Tk.d)), none, none, none, none, none] [] = .rt (.loc 0) (NetS ts []) := by
    unfold g__law_net
    refine seq_step (δ' := [some (.lst (ts.map Tk.d)), some (.loc 0), none, none, none, none]) (s' := NetS [] []) (by simp [p_init]) ?_
    refine seq_step (δ' := [some (.lst (ts.map Tk.d)), some (.loc 0), p2, p3, p4, p5]) (s' := NetS ts []) (by
      simp only [sFor_eq, itAny_eq, dVar_eq, List.getElem?_cons_zero, bind_ok, out_ok]
      exact e) ?_
    simp
  show finO 0 (g__law_net [some (.lst (ts.map Tk.d)), none, none, none, none, none] []) = _
  rw [key]
  rfl
/-- the net is at 0 -/
structure Nt (ts : List Tk) (s : Sto) : Prop where
  o : s[0]? = some NetO
  d : s[4]? = some (.dct (kys ts) (vls ts))
def Tk.q (t : Tk) : D := .tup [.int t.pr, .int t.la, .lst ((zonesOf t.b).map D.int)]
theorem p_ticket {ts : List Tk} {t : Tk} {s : Sto} (h : Nt ts s) (nd : (ts.map Tk.nm).Nodup) (ht : t ∈ ts) (ho : t.ok) : f_Net_ticket [.loc 0, .str t.nm] s = .ok t.q s := by
  have l := lk_yes nd ht
  have n1 := p_isname (s := s) ho.1
  have key : g_Net_ticket [some (.loc 0), some (.str t.nm), none, none, none] s = .rt t.q s := by
    unfold g_Net_ticket
    refine seq_step (δ' := [some (.loc 0), some (.str t.nm), none, none, none]) (s' := s) (by simp [n1, h.o, h.d, l]) ?_
    refine seq_step (δ' := [some (.loc 0), some (.str t.nm), some (.int t.pr), some (.int t.la), some (.tup ((zonesOf t.b).map D.int))]) (s' := s) (by simp [h.o, h.d, oDix, l, Tk.n]) ?_
    simp [lim_eq, Tk.q]
  show finO s.length (g_Net_ticket [some (.loc 0), some (.str t.nm), none, none, none] s) = _
  rw [key]
  simp
theorem p_fits {ts : List Tk} {t : Tk} {b : Int} {s : Sto} (h : Nt ts s) (nd : (ts.map Tk.nm).Nodup) (ht : t ∈ ts) (ho : t.ok) (hb : okB b) : f_fits [.loc 0, .str t.nm, .int b] s = .ok (.bl (fitsZ b t.b)) s := by
  have e1 := p_ticket h nd ht ho
  have e2 := p_bits (s := s) ho.2.2.2
  have e3 := fits_eq hb ho.2.2.2
  simp only [Tk.q] at e1
  simp [f_fits, mkF, g_fits, dMeth_eq, List.lookup, h.o, e1, e2, e3]
end Rb
namespace Rb
open PySem PySem.Spec L2 Mp
abbrev Rd2 := Int × Int
abbrev Bt := Option (List Nat)
def rD (r : Rd2) : D := .tup [.int r.1, .int r.2]
def bD : Bt → D
  | none => .non
  | some n => .str n
def pD (p : Rd2 × Bt) : D := .tup [rD p.1, bD p.2]
def fnd (ts : List Tk) (n : List Nat) : Option Tk := ts.find? fun t => t.nm == n
def go (ts : List Tk) (sp : Int) (held : Option (Tk × Int)) : List (Rd2 × Bt) → Option Int
  | [] => some sp
  | ((b, m), some n) :: r => match fnd ts n with
    | some t => if fitsZ b t.b = true then go ts (sp + t.pr) (some (t, m + t.la)) r else none
    | none => none
  | ((b, m), none) :: r => match held with
    | none => none
    | some (t, u) => if m < u ∧ fitsZ b t.b = true then go ts sp held r else none
structure Ts (ts : List Tk) : Prop where
  ok : ∀ t ∈ ts, t.ok
  nd : (ts.map Tk.nm).Nodup
  le : ts.length ≤ 3
def okL (ts : List Tk) (L : List (Rd2 × Bt)) : Prop := ∀ p ∈ L, okB p.1.1 ∧ ∀ n, p.2 = some n → n ∈ ts.map Tk.nm
theorem fnd_ok {ts : List Tk} (h : Ts ts) {n : List Nat} (hn : n ∈ ts.map Tk.nm) : ∃ t ∈ ts, t.nm = n ∧ fnd ts n = some t ∧ ts.filter (fun u => u.nm == n) = [t] := by
  have nd := h.nd
  clear h
  induction ts with
  | nil => cases hn
  | cons t ts ih =>
    rw [List.map_cons] at nd hn
    obtain ⟨n1, n2⟩ := List.nodup_cons.mp nd
    by_cases e : t.nm = n
    · refine ⟨t, List.mem_cons_self, e, by simp [fnd, e], ?_⟩
      rw [List.filter_cons_of_pos (by simpa using e)]
      congr 1
      rw [List.filter_eq_nil_iff]
      intro u hu q
      have q' : u.nm = n := by simpa using q
      exact n1 (by rw [e, ← q']; exact List.mem_map_of_mem hu)
    · have hn' : n ∈ ts.map Tk.nm := by
        rcases List.mem_cons.mp hn with q | q
        · exact absurd q.symm e
        · exact q
      obtain ⟨u, h1, h2, h3, h4⟩ := ih hn' n2
      refine ⟨u, List.mem_cons_of_mem _ h1, h2, ?_, ?_⟩
      · have : (t.nm == n) = false := by simpa using e
        simp [fnd, this]
        exact h3
      · rw [List.filter_cons_of_neg (by simpa using e)]
        exact h4
def hD : Option (Tk × Int) → D
  | none => .non
  | some (t, u) => .tup [t.d, .int u]
theorem c_tk {ts : List Tk} {t : Tk} {n : List Nat} {m : Int} {b : Int} {o1 o2 o3 o4 o7 o8 : Option D} {s : Sto} (hl : ts.length ≤ 3) (hf : ts.filter (fun u => u.nm == n) = [t]) :
    lcL (tgN 7) (tst (dOp oEq (dOp oIx (dVar 7) (dC (.int 0))) (dVar 6))) (dTup (aCons (dVar 7) (aCons (dOp oAdd (dOp oIx (dVar 5) (dC (.int 1))) (dOp oIx (dVar 7) (dC (.int 2)))) aNil))) [some (.lst (ts.map Tk.d)), o1, o2, o3, o4, some (rD (b, m)), some (.str n), o7, o8] (ts.map Tk.d) [] s = .ok (.lst [hD (some (t, m + t.la))]) s := by
  have r := lcL_fil (s := s) (δ := [some (.lst (ts.map Tk.d)), o1, o2, o3, o4, some (rD (b, m)), some (.str n), o7, o8]) (t := tgN 7) (c := tst (dOp oEq (dOp oIx (dVar 7) (dC (.int 0))) (dVar 6))) (e := dTup (aCons (dVar 7) (aCons (dOp oAdd (dOp oIx (dVar 5) (dC (.int 1))) (dOp oIx (dVar 7) (dC (.int 2)))) aNil))) (fun d => match d with | .tup [.str n', .int p, .int l, z] => .tup [.tup [.str n', .int p, .int l, z], .int (m + l)] | _ => .non) (fun d => match d with | .tup [.str n', .int p, .int l, z] => n' == n | _ => false) (ts.map Tk.d) [] (by rw [lim_eq]; simp; omega) (by
    intro d hd
    obtain ⟨t, ht, rfl⟩ := List.mem_map.mp hd
    refine ⟨_, rfl, ?_, fun _ => ?_⟩
    · simp [Tk.d]
    · simp [Tk.d, rD, lim_eq])
  have e : ((ts.map Tk.d).filter (fun d => match d with | .tup [.str n', .int p, .int l, z] => n' == n | _ => false)) = (ts.filter (fun u => u.nm == n)).map Tk.d := by
    rw [List.filter_map]
    rfl
  rw [e, hf] at r
  exact r
theorem c_zn {t : Tk} {b : Int} {u : Int} {o0 o1 o2 o3 o5 o6 o7 o8 : Option D} {s : Sto} :
    lcL (tgN 8) (tst (dOp (oInA true) (dVar 8) (dOp oIx (dOp oIx (dVar 4) (dC (.int 0))) (dC (.int 3))))) (dVar 8) [o0, o1, o2, o3, some (hD (some (t, u))), o5, o6, o7, o8] ((zonesOf b).map D.int) [] s = .ok (.lst (((zonesOf b).filter fun z => !decide (z ∈ zonesOf t.b)).map D.int)) s := by
  have hl : (zonesOf b).length ≤ 6 := Nat.le_trans (List.length_filter_le _ _) (by decide)
  have r := lcL_fil (s := s) (δ := [o0, o1, o2, o3, some (hD (some (t, u))), o5, o6, o7, o8]) (t := tgN 8) (c := tst (dOp (oInA true) (dVar 8) (dOp oIx (dOp oIx (dVar 4) (dC (.int 0))) (dC (.int 3))))) (e := dVar 8) id (fun d => match d with | .int z => !decide (z ∈ zonesOf t.b) | _ => false) ((zonesOf b).map D.int) [] (by rw [lim_eq]; simp; omega) (by
    intro d hd
    obtain ⟨z, hz, rfl⟩ := List.mem_map.mp hd
    refine ⟨_, rfl, ?_, fun _ => by simp⟩
    simp [hD, Tk.d])
  have e : ((zonesOf b).map D.int).filter (fun d => match d with | .int z => !decide (z ∈ zonesOf t.b) | _ => false) = ((zonesOf b).filter fun z => !decide (z ∈ zonesOf t.b)).map D.int := by
    rw [List.filter_map]
    rfl
  rw [e, List.map_id] at r
  exact r
theorem ne_nil {xs : List Int} {s : Sto} : oEqG true (.lst (xs.map D.int)) (.lst []) s = .ok (.bl (true != xs.isEmpty)) s := by
  rw [oEq_ll (datDs_ints xs) (by simp)]
  cases xs <;> rfl
/-- the zones' test, and what stands behind it -/
theorem sp_zone {t : Tk} {b m u : Int} {o0 o1 o2 o3 o6 o7 o8 : Option D} {s : Sto} :
    (sIf (tst (dOp oNe (dLc (itAny (dCall f__law_zones (aCons (dOp oIx (dVar 5) (dC (.int 0))) aNil))) (tgN 8) (tst (dOp (oInA true) (dVar 8) (dOp oIx (dOp oIx (dVar 4) (dC (.int 0))) (dC (.int 3))))) (dVar 8) [8]) (dLst aNil))) (sRet (dC .non)) sPass) [o0, o1, o2, o3, some (hD (some (t, u))), some (rD (b, m)), o6, o7, o8] s =
      if fitsZ b t.b = true then .nx [o0, o1, o2, o3, some (hD (some (t, u))), some (rD (b, m)), o6, o7, o8] s else .rt .non s := by
  have c := c_zn (t := t) (b := b) (u := u) (o0 := o0) (o1 := o1) (o2 := o2) (o3 := o3) (o5 := some (rD (b, m))) (o6 := o6) (o7 := o7) (o8 := none) (s := s)
  have z := p_zones (b := b) (s := s)
  simp only [sIf_eq, tst_eq, dOp_eq, dLc_eq, itAny_eq, dCall_eq, aCons_eq, dVar_eq, List.getElem?_cons_succ, List.getElem?_cons_zero, bind_ok, rD, dC_eq, oIx_tup, atI_lit, aNil_eq, z, wipeE_cons, wipeE_nil, List.set] at c ⊢
  simp [z]
  rw [c]
  unfold fitsZ
  have n := ne_nil (xs := (zonesOf b).filter fun z => !decide (z ∈ zonesOf t.b)) (s := s)
  cases q : ((zonesOf b).filter fun z => !decide (z ∈ zonesOf t.b)).isEmpty <;> rw [q] at n <;> simp [n, lim_eq]
theorem sp_loop {ts : List Tk} (h : Ts ts) {s : Sto} {o1 o2 : Option D} : ∀ (L : List (Rd2 × Bt)) (sp : Int) (held : Option (Tk × Int)) (o5 o6 : Option D), okL ts L → 
    (∃ r δ, go ts sp held L = some r ∧ forL (tgT [tgN 5, tgN 6]) g__law_spent_b1 (L.map pD) [some (.lst (ts.map Tk.d)), o1, o2, some (.int sp), some (hD held), o5, o6, none, none] s = .nx δ s ∧ δ[3]? = some (some (.int r))) ∨
    (go ts sp held L = none ∧ forL (tgT [tgN 5, tgN 6]) g__law_spent_b1 (L.map pD) [some (.lst (ts.map Tk.d)), o1, o2, some (.int sp), some (hD held), o5, o6, none, none] s = .rt .non s)
  | [], sp, held, o5, o6, _ => .inl ⟨sp, _, rfl, rfl, rfl⟩
  | ((b, m), some n) :: L, sp, held, o5, o6, hL => by
    obtain ⟨h1, h2⟩ := hL _ List.mem_cons_self
    obtain ⟨t, ht, e1, e2, e3⟩ := fnd_ok h (h2 n rfl)
    have c := c_tk (ts := ts) (t := t) (n := n) (m := m) (b := b) (o1 := o1) (o2 := o2) (o3 := some (.int sp)) (o4 := some (hD held)) (o7 := none) (o8 := none) (s := s) h.le e3
    have z := sp_zone (t := t) (b := b) (m := m) (u := m + t.la) (o0 := some (.lst (ts.map Tk.d))) (o1 := o1) (o2 := o2) (o3 := some (.int (sp + t.pr))) (o6 := some (.str n)) (o7 := none) (o8 := none) (s := s)
    rw [List.map_cons, forL_cons]
    have et : tgT [tgN 5, tgN 6] (pD ((b, m), some n)) [some (.lst (ts.map Tk.d)), o1, o2, some (.int sp), some (hD held), o5, o6, none, none] = some [some (.lst (ts.map Tk.d)), o1, o2, some (.int sp), some (hD held), some (rD (b, m)), some (.str n), none, none] := rfl
    rw [et]
    dsimp only
    have body : g__law_spent_b1 [some (.lst (ts.map Tk.d)), o1, o2, some (.int sp), some (hD held), some (rD (b, m)), some (.str n), none, none] s = if fitsZ b t.b = true then .nx [some (.lst (ts.map Tk.d)), o1, o2, some (.int (sp + t.pr)), some (hD (some (t, m + t.la))), some (rD (b, m)), some (.str n), none, none] s else .rt .non s := by
      unfold g__law_spent_b1
      refine seq_step (δ' := [some (.lst (ts.map Tk.d)), o1, o2, some (.int (sp + t.pr)), some (hD (some (t, m + t.la))), some (rD (b, m)), some (.str n), none, none]) (s' := s) ?_ ?_
      · simp only [sIf_eq, tst_eq, dOp_eq, dVar_eq, List.getElem?_cons_succ, List.getElem?_cons_zero, bind_ok, dC_eq, oIs_eq, isNon_str, out_ok]
        simp only [Bool.true_bne, Bool.not_false, if_true]
        refine seq_step (δ' := [some (.lst (ts.map Tk.d)), o1, o2, some (.int sp), some (hD (some (t, m + t.la))), some (rD (b, m)), some (.str n), none, none]) (s' := s) ?_ ?_
        · simp only [sSet_eq, dOp_eq, dLc_eq, itAny_eq, dVar_eq, List.getElem?_cons_zero, bind_ok, wipeE_cons, wipeE_nil, List.set]
          rw [c]
          simp
        · simp [hD, Tk.d]
      · refine seq_step (δ' := [some (.lst (ts.map Tk.d)), o1, o2, some (.int (sp + t.pr)), some (hD (some (t, m + t.la))), some (rD (b, m)), some (.str n), none, none]) (s' := s) (by simp [hD]) z
    rw [body]
    by_cases q : fitsZ b t.b = true
    · rw [if_pos q]
      have g1 : go ts sp held (((b, m), some n) :: L) = go ts (sp + t.pr) (some (t, m + t.la)) L := by simp [go, e2, q]
      rw [g1]
      exact sp_loop h L _ _ _ _ fun p hp => hL p (List.mem_cons_of_mem _ hp)
    · rw [if_neg q]
      exact .inr ⟨by simp [go, e2, q], rfl⟩
  | ((b, m), none) :: L, sp, none, o5, o6, hL => by
    refine .inr ⟨rfl, ?_⟩
    rw [List.map_cons, forL_cons]
    have et : tgT [tgN 5, tgN 6] (pD ((b, m), none)) [some (.lst (ts.map Tk.d)), o1, o2, some (.int sp), some (hD none), o5, o6, none, none] = some [some (.lst (ts.map Tk.d)), o1, o2, some (.int sp), some .non, some (rD (b, m)), some .non, none, none] := rfl
    rw [et]
    simp [g__law_spent_b1]
  | ((b, m), none) :: L, sp, some (t, u), o5, o6, hL => by
    have z := sp_zone (t := t) (b := b) (m := m) (u := u) (o0 := some (.lst (ts.map Tk.d))) (o1 := o1) (o2 := o2) (o3 := some (.int sp)) (o6 := some .non) (o7 := none) (o8 := none) (s := s)
    rw [List.map_cons, forL_cons]
    have et : tgT [tgN 5, tgN 6] (pD ((b, m), none)) [some (.lst (ts.map Tk.d)), o1, o2, some (.int sp), some (hD (some (t, u))), o5, o6, none, none] = some [some (.lst (ts.map Tk.d)), o1, o2, some (.int sp), some (hD (some (t, u))), some (rD (b, m)), some .non, none, none] := rfl
    rw [et]
    dsimp only
    by_cases hu : m < u
    · have hu' : ¬ u ≤ m := by omega
      have body : g__law_spent_b1 [some (.lst (ts.map Tk.d)), o1, o2, some (.int sp), some (hD (some (t, u))), some (rD (b, m)), some .non, none, none] s = if fitsZ b t.b = true then .nx [some (.lst (ts.map Tk.d)), o1, o2, some (.int sp), some (hD (some (t, u))), some (rD (b, m)), some .non, none, none] s else .rt .non s := by
        unfold g__law_spent_b1
        refine seq_step (δ' := [some (.lst (ts.map Tk.d)), o1, o2, some (.int sp), some (hD (some (t, u))), some (rD (b, m)), some .non, none, none]) (s' := s) (by simp) ?_
        refine seq_step (δ' := [some (.lst (ts.map Tk.d)), o1, o2, some (.int sp), some (hD (some (t, u))), some (rD (b, m)), some .non, none, none]) (s' := s) (by simp [hD, rD, hu']) z
      rw [body]
      by_cases q : fitsZ b t.b = true
      · rw [if_pos q]
        have g1 : go ts sp (some (t, u)) (((b, m), none) :: L) = go ts sp (some (t, u)) L := by simp [go, q, hu]
        rw [g1]
        exact sp_loop h L _ _ _ _ fun p hp => hL p (List.mem_cons_of_mem _ hp)
      · rw [if_neg q]
        exact .inr ⟨by simp [go, q], rfl⟩
    · have hu' : u ≤ m := by omega
      refine .inr ⟨by simp [go, hu], ?_⟩
      simp [g__law_spent_b1, hD, rD, hu']
end Rb
namespace Rb
open PySem PySem.Spec L2 Mp
def oD : Option Int → D
  | some d => .int d
  | none => .non
theorem zip_pD : ∀ (rs : List Rd2) (bs : List Bt), zipD (rs.map rD) (bs.map bD) = (rs.zip bs).map pD
  | [], bs => by simp [zipD]
  | r :: rs, [] => by simp [zipD]
  | r :: rs, b :: bs => by
    rw [List.map_cons, List.map_cons]
    show _ :: zipD _ _ = _
    rw [zip_pD rs bs]
    rfl
theorem p_spent {ts : List Tk} (h : Ts ts) {rs : List Rd2} {bs : List Bt} {s : Sto} (hL : okL ts (rs.zip bs)) : f__law_spent [.lst (ts.map Tk.d), .lst (rs.map rD), .lst (bs.map bD)] s = .ok (oD (go ts 0 none (rs.zip bs))) s := by
  have l := sp_loop h (s := s) (o1 := some (.lst (rs.map rD))) (o2 := some (.lst (bs.map bD))) (rs.zip bs) 0 none none none hL
  have e0 : hD none = .non := rfl
  rw [e0] at l
  rcases l with ⟨r, δ, h1, h2, h3⟩ | ⟨h1, h2⟩
  · rw [h1]
    simp [f__law_spent, mkF, g__law_spent, zRun2, zip_pD, h2, h3, oD]
  · rw [h1]
    simp [f__law_spent, mkF, g__law_spent, zRun2, zip_pD, h2, oD]
/-- what's bought a list that is a cell -/
theorem p_spentC {ts : List Tk} (h : Ts ts) {rs : List Rd2} {bs : List Bt} {s : Sto} {n : Nat} (hn : s[n]? = some (.lst (bs.map bD))) (hL : okL ts (rs.zip bs)) : f__law_spent [.lst (ts.map Tk.d), .lst (rs.map rD), .loc n] s = .ok (oD (go ts 0 none (rs.zip bs))) s := by
  have l := sp_loop h (s := s.set n .dead) (o1 := some (.lst (rs.map rD))) (o2 := some (.loc n)) (rs.zip bs) 0 none none none hL
  have e0 : hD none = .non := rfl
  rw [e0] at l
  have hl := (List.getElem?_eq_some_iff.mp hn).1
  have ss : (s.set n .dead).set n (.lst (bs.map bD)) = s := by
    rw [List.set_set]
    refine List.ext_getElem? fun i => ?_
    rw [List.getElem?_set]
    split
    · rename_i e
      subst e
      first | rw [if_pos hl, hn] | rw [hn]
    · rfl
  have bk : bkS n (bs.map bD) (s.set n .dead) = some s := by
    unfold bkS
    rw [List.getElem?_set_self hl]
    dsimp only
    rw [ss]
  rcases l with ⟨r, δ, h1, h2, h3⟩ | ⟨h1, h2⟩
  · rw [h1]
    simp [f__law_spent, mkF, g__law_spent, zRun2, hn, zip_pD, h2, h3, oD, Out.back, bk]
  · rw [h1]
    simp [f__law_spent, mkF, g__law_spent, zRun2, hn, zip_pD, h2, oD, Out.back, bk]
end Rb
namespace Rb
open PySem PySem.Spec L2 Mp
/-! ### what is bought -/
def bsOk (ts : List Tk) (bs : List Bt) : Prop := ∀ b ∈ bs, ∀ n, b = some n → n ∈ ts.map Tk.nm
def someL (ts : List Tk) : List Bt := none :: ts.map fun t => some t.nm
theorem some_ok {ts : List Tk} : bsOk ts (someL ts) := by
  intro b hb n e
  subst e
  rcases List.mem_cons.mp hb with q | q
  · cases q
  · obtain ⟨t, ht, e⟩ := List.mem_map.mp q
    cases e
    exact List.mem_map_of_mem ht
theorem okL_of {ts : List Tk} {rs : List Rd2} {bs : List Bt} (hr : ∀ r ∈ rs, okB r.1) (hb : bsOk ts bs) : okL ts (rs.zip bs) := by
  intro p hp
  exact ⟨hr _ (List.of_mem_zip hp).1, fun n e => hb _ (List.of_mem_zip hp).2 n e⟩
theorem oD_non {o : Option Int} : isNon (oD o) = o.isNone := by cases o <;> rfl
theorem okS_nm {z : List Nat} (h : NmOk z) : okS z = true := by
  unfold okS
  rw [List.all_eq_true]
  intro c hc
  have := h.2.2 c hc
  simp
  omega
theorem dat_bD {ts : List Tk} (h : Ts ts) {n : Nat} : ∀ {bs : List Bt}, bsOk ts bs → datDs n (bs.map bD) = true
  | [], _ => datDs_nil
  | b :: bs, hb => by
    rw [List.map_cons, datDs_cons, dat_bD h fun c hc => hb c (List.mem_cons_of_mem _ hc)]
    cases b with
    | none => simp [bD]
    | some z =>
      obtain ⟨t, ht, e⟩ := List.mem_map.mp (hb (some z) List.mem_cons_self z rfl)
      have := okS_nm (h.ok t ht).1
      rw [e] at this
      simp [bD, this]
end Rb
namespace Rb
open PySem PySem.Spec L2 Mp
/-! ### ways by what is held -/
abbrev HK := Bt × Int
/-- key, price, where the list stands, what is in it -/
abbrev We := HK × Int × Nat × List Bt
def kD (k : HK) : D := .tup [bD k.1, .int k.2]
def wV (e : We) : D := .tup [.int e.2.1, .loc e.2.2.1]
abbrev kS (E : List We) : List D := E.map fun e => kD e.1
abbrev vS (E : List We) : List D := E.map wV
def wg (k : HK) : List We → Option We
  | [] => none
  | e :: E => if e.1 = k then some e else wg k E
def wput (e : We) (E : List We) : List We := if (E.any fun x => decide (x.1 = e.1)) = true then E.map fun x => if x.1 = e.1 then e else x else E ++ [e]
theorem bD_eq {a b : Bt} : eqA (bD a) (bD b) = decide (a = b) := by
  cases a with
  | none => cases b <;> rfl
  | some a =>
    cases b with
    | none => rfl
    | some b =>
      show (a == b) = _
      by_cases h : a = b <;> simp [h]
theorem eq_kD {a b : HK} : eqT (kD a) (kD b) = decide (a = b) := by
  obtain ⟨a1, a2⟩ := a
  obtain ⟨b1, b2⟩ := b
  show (eqA (bD a1) (bD b1) && (eqA (.int a2) (.int b2) && true)) = _
  rw [bD_eq, show eqA (.int a2) (.int b2) = (a2 == b2) from rfl]
  by_cases h1 : a1 = b1 <;> by_cases h2 : a2 = b2 <;> simp [h1, h2]
theorem key_kD {k : HK} : ∃ q, keyT (kD k) = some q := by
  obtain ⟨a, i⟩ := k
  cases a <;> exact ⟨_, rfl⟩
theorem lk_kD {k : HK} : ∀ E : List We, lkT (kD k) (kS E) (vS E) = (wg k E).map wV
  | [] => rfl
  | e :: E => by
    show (if eqT (kD e.1) (kD k) = true then some (wV e) else lkT (kD k) (kS E) (vS E)) = _
    unfold wg
    rw [eq_kD, lk_kD E]
    by_cases h : e.1 = k <;> simp [h]
theorem rep_kD {e : We} : ∀ E : List We, repT (kD e.1) (wV e) (kS E) (vS E) = vS (E.map fun x => if x.1 = e.1 then e else x)
  | [] => rfl
  | x :: E => by
    show (if eqT (kD x.1) (kD e.1) = true then wV e else wV x) :: repT (kD e.1) (wV e) (kS E) (vS E) = _
    rw [eq_kD, rep_kD E]
    by_cases h : x.1 = e.1 <;> simp [h]
theorem any_kD {k : HK} {E : List We} : ((kS E).any fun c => eqT c (kD k)) = E.any fun x => decide (x.1 = k) := by
  rw [List.any_map]
  congr 1
  funext x
  exact eq_kD
theorem set_kD {e : We} {E : List We} : setTk (kD e.1) (kS E) = kS (wput e E) ∧ setTv (kD e.1) (wV e) (kS E) (vS E) = vS (wput e E) := by
  unfold setTk setTv wput
  rw [any_kD]
  cases (E.any fun x => decide (x.1 = e.1)) with
  | true =>
    rw [if_pos rfl, if_pos rfl, if_pos rfl]
    refine ⟨?_, rep_kD E⟩
    show kS E = (E.map fun x => if x.1 = e.1 then e else x).map fun e => kD e.1
    rw [List.map_map]
    refine List.map_congr_left fun x _ => ?_
    simp only [Function.comp]
    split
    · rename_i h; rw [h]
    · rfl
  | false =>
    rw [if_neg (by simp), if_neg (by simp), if_neg (by simp)]
    exact ⟨by simp, by simp⟩
/-- keeps the cheaper one -/
def wkeep (e : We) (E : List We) : List We := match wg e.1 E with
  | none => wput e E
  | some x => if e.2.1 < x.2.1 then wput e E else E
theorem p_keep {E : List We} {e : We} {n : Nat} {s : Sto} (hn : s[n]? = some (.dcT (kS E) (vS E))) (hl : E.length < 1000) : f_keep_least [.loc n, kD e.1, wV e] s = .ok .non (s.set n (.dcT (kS (wkeep e E)) (vS (wkeep e E)))) := by
  obtain ⟨q, hq⟩ := key_kD (k := e.1)
  have hd : dtOf s (.loc n) = some (kS E, vS E) := by unfold dtOf; simp only [hn]
  have hl' : (kS E).length < 1000 := by simpa using hl
  obtain ⟨e1, e2⟩ := set_kD (e := e) (E := E)
  let δ : Mp.Env := [some (.loc n), some (kD e.1), some (wV e)]
  have tin : dTin true (dVar 1) (dVar 0) δ s = .ok (.bl (true != (wg e.1 E).isSome)) s := by
    unfold dTin
    show (match dtOf s (.loc n), keyT (kD e.1) with
      | some (ks, xs), some _ => Res.ok (D.bl (true != (lkT (kD e.1) ks xs).isSome)) s
      | _, _ => .stuck) = _
    rw [hd, hq]
    dsimp only
    rw [lk_kD]
    cases wg e.1 E <;> rfl
  have put : sTput (dVar 2) (dVar 0) (dVar 1) δ s = .nx δ (s.set n (.dcT (kS (wput e E)) (vS (wput e E)))) := by
    unfold sTput
    show (match (D.loc n), keyT (kD e.1) with
      | .loc n, some _ => match s[n]? with
        | some (.dcT ks xs) => if ks.length < 1000 then Out.nx δ (s.set n (.dcT (setTk (kD e.1) ks) (setTv (kD e.1) (wV e) ks xs))) else .stuck
        | _ => .stuck
      | _, _ => .stuck) = _
    rw [hq]
    dsimp only
    rw [hn]
    dsimp only
    rw [if_pos hl', e1, e2]
  have key : g_keep_least δ s = .nx δ (s.set n (.dcT (kS (wkeep e E)) (vS (wkeep e E)))) := by
    unfold g_keep_least wkeep
    cases hg : wg e.1 E with
    | none =>
      rw [hg] at tin
      have te : (tOrD (tst (dTin true (dVar 1) (dVar 0))) (tst (dOp oLt (dOp oIx (dVar 2) (dC (.int 0))) (dOp oIx (dTix (dVar 0) (dVar 1)) (dC (.int 0)))))) δ s = .ok true s := by
        generalize dTin true (dVar 1) (dVar 0) = F at *
        simp [tin]
      rw [sIf_eq, te]
      exact put
    | some x =>
      rw [hg] at tin
      have tix : dTix (dVar 0) (dVar 1) δ s = .ok (wV x) s := by
        unfold dTix
        show (match dtOf s (.loc n), keyT (kD e.1) with
          | some (ks, xs), some _ => match lkT (kD e.1) ks xs with
            | some d => Res.ok d s
            | none => .stuck
          | _, _ => .stuck) = _
        rw [hd, hq]
        dsimp only
        rw [lk_kD, hg]
        rfl
      have te : (tOrD (tst (dTin true (dVar 1) (dVar 0))) (tst (dOp oLt (dOp oIx (dVar 2) (dC (.int 0))) (dOp oIx (dTix (dVar 0) (dVar 1)) (dC (.int 0)))))) δ s = .ok (decide (e.2.1 < x.2.1)) s := by
        have v2 : δ[2]? = some (some (wV e)) := rfl
        generalize dTin true (dVar 1) (dVar 0) = F at *
        generalize dTix (dVar 0) (dVar 1) = F2 at *
        simp [tin, tix, v2, wV]
      rw [sIf_eq, te]
      by_cases c : e.2.1 < x.2.1
      · rw [decide_eq_true c]
        dsimp only
        rw [if_pos c]
        exact put
      · rw [decide_eq_false c]
        dsimp only
        rw [if_neg c]
        have ss : s.set n (.dcT (kS E) (vS E)) = s := by
          refine List.ext_getElem? fun i => ?_
          rw [List.getElem?_set]
          split
          · rename_i h
            subst h
            rw [if_pos (List.getElem?_eq_some_iff.mp hn).1, hn]
          · rfl
        rw [ss]
        rfl
  show finO s.length (g_keep_least δ s) = _
  rw [key, fin_nx]
  exact cut_len (by rw [List.length_set])
/-- whether what is held does -/
def hst (ts : List Tk) (k : HK) (b m : Int) : Bool := match k.1 with
  | none => false
  | some n => decide (m < k.2) && match fnd ts n with
    | some t => fitsZ b t.b
    | none => false
theorem p_still {ts : List Tk} (h : Ts ts) {s : Sto} (hs : Nt ts s) {k : HK} (hk : ∀ n, k.1 = some n → n ∈ ts.map Tk.nm) {b m : Int} (hb : okB b) : f_holds_still [.loc 0, bD k.1, .int k.2, rD (b, m)] s = .ok (.bl (hst ts k b m)) s := by
  obtain ⟨a, u⟩ := k
  cases a with
  | none => simp [f_holds_still, mkF, g_holds_still, bD, hst]
  | some n =>
    obtain ⟨t, ht, e1, e2, _⟩ := fnd_ok h (hk n rfl)
    subst e1
    have f := p_fits hs h.nd ht (h.ok t ht) hb
    unfold hst
    dsimp only
    rw [e2]
    dsimp only
    by_cases c : m < u
    · simp [f_holds_still, mkF, g_holds_still, bD, rD, c, f]
    · simp [f_holds_still, mkF, g_holds_still, bD, rD, c]
end Rb
namespace Rb
open PySem PySem.Spec L2 Mp
/-! ### .. without the places -/
abbrev Wa := HK × Int × List Bt
def stp (e : We) : Wa := (e.1, e.2.1, e.2.2.2)
def wgA (k : HK) : List Wa → Option Wa
  | [] => none
  | e :: E => if e.1 = k then some e else wgA k E
def wputA (e : Wa) (E : List Wa) : List Wa := if (E.any fun x => decide (x.1 = e.1)) = true then E.map fun x => if x.1 = e.1 then e else x else E ++ [e]
def wkeepA (e : Wa) (E : List Wa) : List Wa := match wgA e.1 E with
  | none => wputA e E
  | some x => if e.2.1 < x.2.1 then wputA e E else E
theorem wg_stp {k : HK} : ∀ E : List We, wgA k (E.map stp) = (wg k E).map stp
  | [] => rfl
  | e :: E => by
    rw [List.map_cons]
    unfold wgA wg
    rw [wg_stp E]
    by_cases h : e.1 = k
    · rw [if_pos h, if_pos (show (stp e).1 = k from h)]; rfl
    · rw [if_neg h, if_neg (show ¬ (stp e).1 = k from h)]
theorem wput_stp {e : We} {E : List We} : (wput e E).map stp = wputA (stp e) (E.map stp) := by
  unfold wput wputA
  have q : ((E.map stp).any fun x => decide (x.1 = (stp e).1)) = E.any fun x => decide (x.1 = e.1) := by rw [List.any_map]; rfl
  rw [q]
  split
  · rw [List.map_map, List.map_map]
    refine List.map_congr_left fun x _ => ?_
    simp only [Function.comp]
    by_cases h : x.1 = e.1
    · rw [if_pos h, if_pos (show (stp x).1 = (stp e).1 from h)]
    · rw [if_neg h, if_neg (show ¬ (stp x).1 = (stp e).1 from h)]
  · rw [List.map_append]; rfl
theorem wkeep_stp {e : We} {E : List We} : (wkeep e E).map stp = wkeepA (stp e) (E.map stp) := by
  unfold wkeep wkeepA
  rw [show (stp e).1 = e.1 from rfl, wg_stp]
  cases wg e.1 E with
  | none => exact wput_stp
  | some x =>
    show (if e.2.1 < x.2.1 then wput e E else E).map stp = if e.2.1 < x.2.1 then wputA (stp e) (E.map stp) else E.map stp
    by_cases h : e.2.1 < x.2.1
    · rw [if_pos h, if_pos h]; exact wput_stp
    · rw [if_neg h, if_neg h]
theorem wput_mem {e x : We} {E : List We} (h : x ∈ wput e E) : x = e ∨ x ∈ E := by
  unfold wput at h
  split at h
  · obtain ⟨y, hy, rfl⟩ := List.mem_map.mp h
    split
    · exact .inl rfl
    · exact .inr hy
  · rcases List.mem_append.mp h with h | h
    · exact .inr h
    · exact .inl (List.mem_singleton.mp h)
theorem wkeep_mem {e x : We} {E : List We} (h : x ∈ wkeep e E) : x = e ∨ x ∈ E := by
  unfold wkeep at h
  split at h
  · exact wput_mem h
  · split at h
    · exact wput_mem h
    · exact .inr h
theorem wput_len {e : We} {E : List We} : (wput e E).length ≤ E.length + 1 := by
  unfold wput
  split <;> simp
theorem wkeep_len {e : We} {E : List We} : (wkeep e E).length ≤ E.length + 1 := by
  unfold wkeep
  split
  · exact wput_len
  · split
    · exact wput_len
    · omega
/-- what follows a way by a ride -/
def cnd (ts : List Tk) (b m : Int) (a : Wa) : List Wa := (if hst ts a.1 b m = true then [(a.1, a.2.1, a.2.2 ++ [none])] else []) ++ (ts.filter fun t => fitsZ b t.b).map fun t => ((some t.nm, m + t.la), a.2.1 + t.pr, a.2.2 ++ [some t.nm])
def behA (ts : List Tk) (b m : Int) (A : List Wa) : List Wa := (A.flatMap (cnd ts b m)).foldl (fun F c => wkeepA c F) []
/-- the lists stand there -/
def CI (n : Nat) (C : Sto) (F : List We) : Prop := ∀ e ∈ F, ∃ j, e.2.2.1 = n + j ∧ C[j]? = some (.lst (e.2.2.2.map bD))
theorem CI.app {n : Nat} {C : Sto} {F : List We} (h : CI n C F) (c : Cell) : CI n (C ++ [c]) F := fun e he => by
  obtain ⟨j, e1, e2⟩ := h e he
  exact ⟨j, e1, by rw [List.getElem?_append_left (List.getElem?_eq_some_iff.mp e2).1]; exact e2⟩
abbrev BS (s : Sto) (F : List We) (C : Sto) : Sto := s ++ (.dcT (kS F) (vS F) :: C)
abbrev EB (b m : Int) (W : D) (n : Nat) (a4 : Option D) (x : We) (a6 a7 a8 a9 : Option D) : Mp.Env := [some (.loc 0), some (rD (b, m)), some W, some (.loc n), a4, some (wV x), a6, a7, a8, a9]
theorem Nt.app {ts : List Tk} {s : Sto} (h : Nt ts s) (r : Sto) : Nt ts (s ++ r) := by
  have a : ∀ {i : Nat} {c : Cell}, s[i]? = some c → (s ++ r)[i]? = some c := fun {i c} q => by
    rw [List.getElem?_append_left (List.getElem?_eq_some_iff.mp q).1]
    exact q
  exact ⟨a h.o, a h.d⟩
/-- a list more, by what is bought now -/
theorem add_c {s : Sto} {i : Nat} {bs : List Bt} {c : Bt} (h : s[i]? = some (.lst (bs.map bD))) (hl : bs.length ≤ 20) : oAddC (.loc i) (.lst [bD c]) s = .ok (.loc s.length) (s ++ [.lst ((bs ++ [c]).map bD)]) := by
  unfold oAddC
  rw [lsOf_loc, h]
  dsimp only
  rw [show lsOf s (.lst [bD c]) = some [bD c] from rfl]
  dsimp only
  rw [if_pos (by rw [List.length_map, lim_eq]; simp; omega), List.map_append]
  rfl
/-- a way more is kept -/
theorem keep_st {s C : Sto} {F : List We} (hl : F.length < 900) (ci : CI (s.length + 1) C F) {k : HK} {p : Int} {bs : List Bt} : ∃ F', CI (s.length + 1) (C ++ [.lst (bs.map bD)]) F' ∧ F'.length ≤ F.length + 1 ∧ F'.map stp = wkeepA (k, p, bs) (F.map stp) ∧
    f_keep_least [.loc s.length, kD k, .tup [.int p, .loc (BS s F C).length]] (BS s F C ++ [.lst (bs.map bD)]) = .ok .non (BS s F' (C ++ [.lst (bs.map bD)])) := by
  let e : We := (k, p, (BS s F C).length, bs)
  refine ⟨wkeep e F, fun x hx => ?_, wkeep_len, wkeep_stp, ?_⟩
  · rcases wkeep_mem hx with rfl | hx
    · exact ⟨C.length, by simp [e]; omega, by simp [e]⟩
    · exact ci.app _ x hx
  · have hn : (BS s F C ++ [Cell.lst (bs.map bD)])[s.length]? = some (.dcT (kS F) (vS F)) := by simp [BS]
    have q := p_keep (e := e) hn (by omega)
    rw [show (.tup [.int p, .loc (BS s F C).length] : D) = wV e from rfl, show kD k = kD e.1 from rfl, q]
    congr 1
    unfold BS
    rw [List.append_assoc, List.set_append_right _ _ (Nat.le_refl _)]
    simp
section
variable {ts : List Tk} {b m : Int} {s : Sto}
/-- the tickets, one by one -/
theorem tk_in (h : Ts ts) (hs : Nt ts s) (hb : okB b) {x : We} (hx : s[x.2.2.1]? = some (.lst (x.2.2.2.map bD))) (hx2 : x.2.2.2.length ≤ 20) {W : D} {a4 a6 a7 : Option D} : ∀ (us : List Tk) (F : List We) (C : Sto) (a8 a9 : Option D), (∀ t ∈ us, t ∈ ts) → CI (s.length + 1) C F → F.length + us.length < 900 →
    ∃ (F' : List We) (C' : Sto) (b8 b9 : Option D), CI (s.length + 1) C' F' ∧ F'.length ≤ F.length + us.length ∧ F'.map stp = ((us.filter fun t => fitsZ b t.b).map fun t => (((some t.nm, m + t.la), x.2.1 + t.pr, x.2.2.2 ++ [some t.nm]) : Wa)).foldl (fun F c => wkeepA c F) (F.map stp) ∧
      forL (tgN 8) g_behind_ride_b1 (us.map fun t => D.str t.nm) (EB b m W s.length a4 x a6 a7 a8 a9) (BS s F C) = .nx (EB b m W s.length a4 x a6 a7 b8 b9) (BS s F' C')
  | [], F, C, a8, a9, _, ci, _ => ⟨F, C, a8, a9, ci, by simp, rfl, rfl⟩
  | t :: us, F, C, a8, a9, hu, ci, hl => by
    rw [List.length_cons] at hl
    have ht := hu t List.mem_cons_self
    have hs' : Nt ts (BS s F C) := hs.app _
    have f := p_fits hs' h.nd ht (h.ok t ht) hb
    have te : tst (dCall f_fits (aCons (dVar 0) (aCons (dVar 8) (aCons (dOp oIx (dVar 1) (dC (.int 0))) aNil)))) (EB b m W s.length a4 x a6 a7 (some (.str t.nm)) a9) (BS s F C) = .ok (fitsZ b t.b) (BS s F C) := by
      generalize BS s F C = S at *
      generalize f_fits = G at f
      generalize wV x = X
      simp [rD, f]
    rw [List.map_cons]
    by_cases q : fitsZ b t.b = true
    · obtain ⟨F1, c1, c2, c3, c4⟩ := keep_st (k := (some t.nm, m + t.la)) (p := x.2.1 + t.pr) (bs := x.2.2.2 ++ [some t.nm]) (by omega) ci
      obtain ⟨F', C', b8, b9, d1, d2, d3, d4⟩ := tk_in (W := W) (a4 := a4) (a6 := a6) (a7 := a7) h hs hb hx hx2 us F1 (C ++ [.lst ((x.2.2.2 ++ [some t.nm]).map bD)]) (some (.str t.nm)) (some t.q) (fun u hu' => hu u (List.mem_cons_of_mem _ hu')) c1 (by omega)
      refine ⟨F', C', b8, b9, d1, by rw [List.length_cons]; omega, ?_, ?_⟩
      · rw [d3, c3, List.filter_cons_of_pos (p := fun t : Tk => fitsZ b t.b) q]
        rfl
      · have body : g_behind_ride_b1 (EB b m W s.length a4 x a6 a7 (some (.str t.nm)) a9) (BS s F C) = .nx (EB b m W s.length a4 x a6 a7 (some (.str t.nm)) (some t.q)) (BS s F1 (C ++ [.lst ((x.2.2.2 ++ [some t.nm]).map bD)])) := by
          unfold g_behind_ride_b1
          rw [sIf_eq, te, q]
          have tq := p_ticket hs' h.nd ht (h.ok t ht)
          have ad := add_c (c := some t.nm) (s := BS s F C) (i := x.2.2.1) (by rw [List.getElem?_append_left (List.getElem?_eq_some_iff.mp hx).1]; exact hx) hx2
          have o := hs'.o
          generalize BS s F1 (C ++ [.lst ((x.2.2.2 ++ [some t.nm]).map bD)]) = S2 at *
          generalize BS s F C = S at *
          refine seq_step (δ' := EB b m W s.length a4 x a6 a7 (some (.str t.nm)) (some t.q)) (s' := S) (by
            generalize f_Net_ticket = G at tq
            generalize wV x = X
            generalize rD (b, m) = RD
            simp [dMeth_eq, List.lookup, o, tq]) ?_
          have c4 : f_keep_least [.loc s.length, .tup [.str t.nm, .int (m + t.la)], .tup [.int (x.2.1 + t.pr), .loc S.length]] (S ++ [.lst ((x.2.2.2 ++ [some t.nm]).map bD)]) = .ok .non S2 := c4
          have ad : oAddC (.loc x.2.2.1) (.lst [.str t.nm]) S = .ok (.loc S.length) (S ++ [.lst ((x.2.2.2 ++ [some t.nm]).map bD)]) := ad
          generalize f_keep_least = G at c4
          generalize S ++ [Cell.lst ((x.2.2.2 ++ [some t.nm]).map bD)] = S1 at *
          simp [rD, wV, Tk.q, lim_eq, ad, c4]
        rw [forL_next (δ1 := EB b m W s.length a4 x a6 a7 (some (.str t.nm)) a9) rfl body]
        exact d4
    · obtain ⟨F', C', b8, b9, d1, d2, d3, d4⟩ := tk_in (W := W) (a4 := a4) (a6 := a6) (a7 := a7) h hs hb hx hx2 us F C (some (.str t.nm)) a9 (fun u hu' => hu u (List.mem_cons_of_mem _ hu')) ci (by omega)
      refine ⟨F', C', b8, b9, d1, by rw [List.length_cons]; omega, ?_, ?_⟩
      · rw [d3, List.filter_cons_of_neg (p := fun t : Tk => fitsZ b t.b) q]
      · have body : g_behind_ride_b1 (EB b m W s.length a4 x a6 a7 (some (.str t.nm)) a9) (BS s F C) = .nx (EB b m W s.length a4 x a6 a7 (some (.str t.nm)) a9) (BS s F C) := by
          unfold g_behind_ride_b1
          rw [sIf_eq, te]
          rw [Bool.not_eq_true] at q
          rw [q]
          rfl
        rw [forL_next (δ1 := EB b m W s.length a4 x a6 a7 (some (.str t.nm)) a9) rfl body]
        exact d4
end
end Rb
namespace Rb
open PySem PySem.Spec L2 Mp
theorem p_tknames {ts : List Tk} (h : Ts ts) {s : Sto} (hs : Nt ts s) : f_Net_tickets [.loc 0] s = .ok (.lst (ts.map fun t => D.str t.nm)) s := by
  have hl := h.le
  have h2 : ts.length ≤ 1000000 := by omega
  simp [f_Net_tickets, mkF, g_Net_tickets, hs.o, hs.d, bListA, lim_eq, h2]
theorem pair_E : ∀ E : List We, pairD (kS E) (vS E) = E.map fun e => D.tup [kD e.1, wV e]
  | [] => rfl
  | e :: E => by
    show D.tup [kD e.1, wV e] :: pairD (kS E) (vS E) = _
    rw [pair_E E]
    rfl
section
variable {ts : List Tk} {b m : Int} {s : Sto}
/-- a way -/
theorem way_in (h : Ts ts) (hs : Nt ts s) (hb : okB b) {x : We} (hx : s[x.2.2.1]? = some (.lst (x.2.2.2.map bD))) (hx2 : x.2.2.2.length ≤ 20) (hk : ∀ n, x.1.1 = some n → n ∈ ts.map Tk.nm) {W : D} {F : List We} {C : Sto} {a6 a7 a8 a9 : Option D} (ci : CI (s.length + 1) C F) (hl : F.length < 800) :
    ∃ (F' : List We) (C' : Sto) (b6 b7 b8 b9 : Option D), CI (s.length + 1) C' F' ∧ F'.length ≤ F.length + 4 ∧ F'.map stp = (cnd ts b m (stp x)).foldl (fun F c => wkeepA c F) (F.map stp) ∧
      g_behind_ride_b2 (EB b m W s.length (some (kD x.1)) x a6 a7 a8 a9) (BS s F C) = .nx (EB b m W s.length (some (kD x.1)) x b6 b7 b8 b9) (BS s F' C') := by
  have hs' := hs.app (.dcT (kS F) (vS F) :: C)
  have st := p_still h hs' (k := x.1) hk (m := m) hb
  have t3 := h.le
  have S0 : sAsg (dVar 4) (tgT [(tgN 6), (tgN 7)]) (EB b m W s.length (some (kD x.1)) x a6 a7 a8 a9) (BS s F C) = .nx (EB b m W s.length (some (kD x.1)) x (some (bD x.1.1)) (some (.int x.1.2)) a8 a9) (BS s F C) := rfl
  have te : tst (dCall f_holds_still (aCons (dVar 0) (aCons (dVar 6) (aCons (dVar 7) (aCons (dVar 1) aNil))))) (EB b m W s.length (some (kD x.1)) x (some (bD x.1.1)) (some (.int x.1.2)) a8 a9) (BS s F C) = .ok (hst ts x.1 b m) (BS s F C) := by
    have st : f_holds_still [.loc 0, bD x.1.1, .int x.1.2, rD (b, m)] (BS s F C) = .ok (.bl (hst ts x.1 b m)) (BS s F C) := st
    unfold EB
    generalize BS s F C = S at *
    generalize f_holds_still = G at st
    generalize wV x = X
    generalize kD x.1 = K
    generalize bD x.1.1 = HB at *
    generalize rD (b, m) = RD at *
    simp [st]
  suffices mid : ∃ (F1 : List We) (C1 : Sto), CI (s.length + 1) C1 F1 ∧ F1.length ≤ F.length + 1 ∧ F1.map stp = (if hst ts x.1 b m = true then [((x.1, x.2.1, x.2.2.2 ++ [none]) : Wa)] else []).foldl (fun F c => wkeepA c F) (F.map stp) ∧
      (sIf (tst (dCall f_holds_still (aCons (dVar 0) (aCons (dVar 6) (aCons (dVar 7) (aCons (dVar 1) aNil)))))) (sDrop (dCall f_keep_least (aCons (dVar 3) (aCons (dVar 4) (aCons (dTup (aCons (dOp oIx (dVar 5) (dC (.int 0))) (aCons (dOp oAddC (dOp oIx (dVar 5) (dC (.int 1))) (dLst (aCons (dC .non) aNil))) aNil))) aNil))))) sPass) (EB b m W s.length (some (kD x.1)) x (some (bD x.1.1)) (some (.int x.1.2)) a8 a9) (BS s F C) = .nx (EB b m W s.length (some (kD x.1)) x (some (bD x.1.1)) (some (.int x.1.2)) a8 a9) (BS s F1 C1) by
    obtain ⟨F1, C1, c1, c2, c3, c4⟩ := mid
    obtain ⟨F', C', b8, b9, d1, d2, d3, d4⟩ := tk_in (m := m) (W := W) (a4 := some (kD x.1)) (a6 := some (bD x.1.1)) (a7 := some (.int x.1.2)) h hs hb hx hx2 ts F1 C1 a8 a9 (fun _ h => h) c1 (by omega)
    refine ⟨F', C', some (bD x.1.1), some (.int x.1.2), b8, b9, d1, by omega, ?_, ?_⟩
    · rw [d3, c3]
      unfold cnd
      rw [List.foldl_append]
      rfl
    · unfold g_behind_ride_b2
      refine seq_step S0 (seq_step c4 ?_)
      have d4' := d4
      have nm : f_Net_tickets [.loc 0] (BS s F1 C1) = .ok (.lst (ts.map fun t => D.str t.nm)) (BS s F1 C1) := p_tknames h (hs.app (.dcT (kS F1) (vS F1) :: C1))
      have o : (BS s F1 C1)[0]? = some NetO := (hs.app (.dcT (kS F1) (vS F1) :: C1)).o
      clear c4 d4
      have it : itAny (dMeth 5 [(9, f_Net_tickets)] (dVar 0) aNil) (EB b m W s.length (some (kD x.1)) x (some (bD x.1.1)) (some (.int x.1.2)) a8 a9) (BS s F1 C1) = .ok (ts.map fun t => D.str t.nm) (BS s F1 C1) := by
        unfold EB
        generalize BS s F1 C1 = S at nm o ⊢
        generalize f_Net_tickets = G at nm ⊢
        generalize wV x = X
        generalize kD x.1 = K
        generalize bD x.1.1 = HB
        generalize rD (b, m) = RD
        simp [dMeth_eq, List.lookup, o, nm]
      rw [sFor_eq, it]
      exact d4'
  cases q : hst ts x.1 b m with
  | false =>
    rw [q] at te
    refine ⟨F, C, ci, by omega, rfl, ?_⟩
    rw [sIf_eq, te]
    rfl
  | true =>
    rw [q] at te
    obtain ⟨F1, c1, c2, c3, c4⟩ := keep_st (k := x.1) (p := x.2.1) (bs := x.2.2.2 ++ [none]) (by omega) ci
    refine ⟨F1, _, c1, c2, by rw [c3]; rfl, ?_⟩
    rw [sIf_eq, te]
    have ad := add_c (c := none) (s := BS s F C) (i := x.2.2.1) (by rw [List.getElem?_append_left (List.getElem?_eq_some_iff.mp hx).1]; exact hx) hx2
    generalize BS s F1 (C ++ [.lst ((x.2.2.2 ++ [none]).map bD)]) = S2 at *
    generalize BS s F C = S at *
    have ad : oAddC (.loc x.2.2.1) (.lst [.non]) S = .ok (.loc S.length) (S ++ [.lst ((x.2.2.2 ++ [none]).map bD)]) := ad
    unfold EB
    generalize f_keep_least = G at c4
    generalize kD x.1 = K at *
    generalize bD x.1.1 = HB at *
    generalize S ++ [Cell.lst ((x.2.2.2 ++ [none]).map bD)] = S1 at *
    generalize rD (b, m) = RD
    simp [wV, lim_eq, ad, c4]
/-- ways whose lists stand there -/
structure Wc (ts : List Tk) (s : Sto) (n : Nat) (E : List We) : Prop where
  at_ : ∀ e ∈ E, s[e.2.2.1]? = some (.lst (e.2.2.2.map bD))
  nm : ∀ e ∈ E, ∀ z, e.1.1 = some z → z ∈ ts.map Tk.nm
  ln : ∀ e ∈ E, e.2.2.2.length = n
theorem ways_in (h : Ts ts) (hs : Nt ts s) (hb : okB b) {W : D} {n : Nat} (hn : n ≤ 20) : ∀ (E F : List We) (C : Sto) (a4 a5 a6 a7 a8 a9 : Option D), Wc ts s n E → CI (s.length + 1) C F → F.length + 4 * E.length < 790 →
    ∃ (F' : List We) (C' : Sto) (δ' : Mp.Env), CI (s.length + 1) C' F' ∧ F'.map stp = ((E.map stp).flatMap (cnd ts b m)).foldl (fun F c => wkeepA c F) (F.map stp) ∧ F'.length ≤ F.length + 4 * E.length ∧ δ'[3]? = some (some (.loc s.length)) ∧ 
      forL (tgT [(tgN 4), (tgN 5)]) g_behind_ride_b2 (E.map fun e => D.tup [kD e.1, wV e]) [some (.loc 0), some (rD (b, m)), some W, some (.loc s.length), a4, a5, a6, a7, a8, a9] (BS s F C) = .nx δ' (BS s F' C')
  | [], F, C, a4, a5, a6, a7, a8, a9, _, ci, _ => ⟨F, C, _, ci, rfl, by simp, rfl, rfl⟩
  | e :: E, F, C, a4, a5, a6, a7, a8, a9, w, ci, hl => by
    rw [List.length_cons] at hl
    obtain ⟨F1, C1, b6, b7, b8, b9, c1, c2, c3, c4⟩ := way_in (m := m) (W := W) (a6 := a6) (a7 := a7) (a8 := a8) (a9 := a9) h hs hb (w.at_ e List.mem_cons_self) (by rw [w.ln e List.mem_cons_self]; exact hn) (w.nm e List.mem_cons_self) ci (by omega)
    obtain ⟨F', C', δ', d1, d2, d3, d4, d5⟩ := ways_in h hs hb (W := W) hn E F1 C1 (some (kD e.1)) (some (wV e)) b6 b7 b8 b9 ⟨fun x hx => w.at_ x (List.mem_cons_of_mem _ hx), fun x hx => w.nm x (List.mem_cons_of_mem _ hx), fun x hx => w.ln x (List.mem_cons_of_mem _ hx)⟩ c1 (by omega)
    refine ⟨F', C', δ', d1, ?_, by rw [List.length_cons]; omega, d4, ?_⟩
    · rw [d2, c3, List.map_cons, List.flatMap_cons, List.foldl_append]
    · rw [List.map_cons, forL_next (δ1 := EB b m W s.length (some (kD e.1)) e a6 a7 a8 a9) rfl c4]
      exact d5
end
end Rb
namespace Rb
open PySem PySem.Spec L2 Mp
theorem cut_keepD {n : Nat} {d : D} {s : Sto} (h : below n d = false) : Mp.cut n d s = .ok d s := by
  unfold Mp.cut
  rw [h]
  simp
theorem cut_some {n : Nat} {d : D} {s r : Sto} (hn : n = s.length) : ∃ r', Mp.cut n d (s ++ r) = .ok d (s ++ r') := by
  subst hn
  unfold Mp.cut
  split
  · exact ⟨r, rfl⟩
  · split
    · exact ⟨[], by simp⟩
    · exact ⟨r, rfl⟩
theorem cnd_key {ts : List Tk} {b m : Int} {a c : Wa} (ha : ∀ z, a.1.1 = some z → z ∈ ts.map Tk.nm) (h : c ∈ cnd ts b m a) : (∀ z, c.1.1 = some z → z ∈ ts.map Tk.nm) ∧ c.2.2.length = a.2.2.length + 1 := by
  unfold cnd at h
  rcases List.mem_append.mp h with h | h
  · split at h
    · rw [List.mem_singleton] at h
      subst h
      exact ⟨ha, by simp⟩
    · cases h
  · obtain ⟨t, ht, rfl⟩ := List.mem_map.mp h
    refine ⟨fun z hz => ?_, by simp⟩
    cases hz
    exact List.mem_map.mpr ⟨t, (List.mem_filter.mp ht).1, rfl⟩
theorem wputA_mem {e x : Wa} {E : List Wa} (h : x ∈ wputA e E) : x = e ∨ x ∈ E := by
  unfold wputA at h
  split at h
  · obtain ⟨y, hy, rfl⟩ := List.mem_map.mp h
    split
    · exact .inl rfl
    · exact .inr hy
  · rcases List.mem_append.mp h with h | h
    · exact .inr h
    · exact .inl (List.mem_singleton.mp h)
theorem wkeepA_mem {e x : Wa} {E : List Wa} (h : x ∈ wkeepA e E) : x = e ∨ x ∈ E := by
  unfold wkeepA at h
  split at h
  · exact wputA_mem h
  · split at h
    · exact wputA_mem h
    · exact .inr h
theorem fold_mem {x : Wa} : ∀ (cs F : List Wa), x ∈ cs.foldl (fun F c => wkeepA c F) F → x ∈ cs ∨ x ∈ F
  | [], F, h => .inr h
  | c :: cs, F, h => by
    rcases fold_mem cs (wkeepA c F) h with h | h
    · exact .inl (List.mem_cons_of_mem _ h)
    · rcases wkeepA_mem h with rfl | h
      · exact .inl List.mem_cons_self
      · exact .inr h
theorem behA_mem {ts : List Tk} {b m : Int} {A : List Wa} {c : Wa} (h : c ∈ behA ts b m A) : ∃ a ∈ A, c ∈ cnd ts b m a := by
  rcases fold_mem _ _ h with h | h
  · exact List.mem_flatMap.mp h
  · cases h
section
variable {ts : List Tk} {s : Sto}
theorem p_behind (h : Ts ts) (hs : Nt ts s) {b m : Int} (hb : okB b) {n : Nat} (hn : n ≤ 10) {E : List We} (w : Wc ts s n E) (hl : E.length ≤ 150) :
    ∃ (F : List We) (r : Sto), f_behind_ride [.loc 0, rD (b, m), .dcT (kS E) (vS E)] s = .ok (.dcT (kS F) (vS F)) (s ++ r) ∧ Wc ts (s ++ r) (n + 1) F ∧ F.map stp = behA ts b m (E.map stp) ∧ F.length ≤ 4 * E.length ∧ ∀ e ∈ F, s.length ≤ e.2.2.1 := by
  obtain ⟨F, C, δ', c1, c2, c3, c4, c5⟩ := ways_in h hs hb (m := m) (W := .dcT (kS E) (vS E)) (n := n) (by omega) E [] [] none none none none none none w (fun e he => by cases he) (by simp; omega)
  rw [List.map_nil] at c2
  have lk : sLck 3 δ' (BS s F C) = .nx (δ'.set 3 (some (.dcT (kS F) (vS F)))) (s ++ (.dead :: C)) := by
    unfold sLck
    rw [c4]
    dsimp only
    have : lckD (BS s F C) (.loc s.length) = some (.dcT (kS F) (vS F), s ++ (.dead :: C)) := by
      unfold lckD BS
      simp
    rw [this]
  have fz : sFrz 3 δ' (BS s F C) = .nx δ' (BS s F C) := by
    unfold sFrz frzD
    rw [c4]
    simp [BS]
  have h3 : (δ'.set 3 (some (.dcT (kS F) (vS F))))[3]? = some (some (.dcT (kS F) (vS F))) := List.getElem?_set_self (List.getElem?_eq_some_iff.mp c4).1
  have key : g_behind_ride [some (.loc 0), some (rD (b, m)), some (.dcT (kS E) (vS E)), none, none, none, none, none, none, none] s = .rt (.dcT (kS F) (vS F)) (s ++ (.dead :: C)) := by
    unfold g_behind_ride
    refine seq_step (δ' := [some (.loc 0), some (rD (b, m)), some (.dcT (kS E) (vS E)), some (.loc s.length), none, none, none, none, none, none]) (s' := BS s [] []) rfl ?_
    refine seq_step (δ' := δ') (s' := BS s F C) (by
      have it : itItemsT (dVar 2) [some (.loc 0), some (rD (b, m)), some (.dcT (kS E) (vS E)), some (.loc s.length), none, none, none, none, none, none] (BS s [] []) = .ok (E.map fun e => D.tup [kD e.1, wV e]) (BS s [] []) := by
        rw [← pair_E]
        rfl
      rw [sFor_eq, it]
      exact c5) ?_
    refine seq_step fz (seq_step lk ?_)
    rw [sRet_eq, dVar_eq, h3]
    rfl
  have wok : ∀ e ∈ F, (∀ z, e.1.1 = some z → z ∈ ts.map Tk.nm) ∧ e.2.2.2.length = n + 1 := fun e he => by
    have : stp e ∈ behA ts b m (E.map stp) := by
      have : stp e ∈ F.map stp := List.mem_map.mpr ⟨e, he, rfl⟩
      rw [c2] at this
      exact this
    obtain ⟨a, ha, hc⟩ := behA_mem this
    obtain ⟨x, hx, rfl⟩ := List.mem_map.mp ha
    obtain ⟨k1, k2⟩ := cnd_key (a := stp x) (c := stp e) (w.nm x hx) hc
    exact ⟨k1, by rw [show e.2.2.2 = (stp e).2.2 from rfl, k2, show (stp x).2.2 = x.2.2.2 from rfl, w.ln x hx]⟩
  have fin : f_behind_ride [.loc 0, rD (b, m), .dcT (kS E) (vS E)] s = cut s.length (.dcT (kS F) (vS F)) (s ++ (.dead :: C)) := by
    show finO s.length (g_behind_ride [some (.loc 0), some (rD (b, m)), some (.dcT (kS E) (vS E)), none, none, none, none, none, none, none] s) = _
    rw [key]
    rfl
  have c3 : F.length ≤ 4 * E.length := by simpa using c3
  cases hF : F with
  | nil =>
    obtain ⟨r', e⟩ := cut_some (s := s) (r := .dead :: C) (d := .dcT (kS F) (vS F)) rfl
    rw [hF] at e fin c2
    exact ⟨[], r', by rw [fin, e], ⟨(fun e he => by cases he), (fun e he => by cases he), (fun e he => by cases he)⟩, by rw [c2]; rfl, by simp, fun e he => by cases he⟩
  | cons e0 F0 =>
    have bl : below s.length (.dcT (kS F) (vS F)) = false := by
      obtain ⟨j, e1, _⟩ := c1 e0 (by rw [hF]; exact List.mem_cons_self)
      rw [hF]
      show (below s.length (wV e0) && belows s.length (vS F0)) = false
      have : below s.length (wV e0) = false := by
        show (below s.length (.int e0.2.1) && (below s.length (.loc e0.2.2.1) && true)) = false
        rw [e1]
        simp [below]
        omega
      rw [this]
      rfl
    refine ⟨F, .dead :: C, by rw [fin, cut_keepD bl], ⟨fun e he => ?_, fun e he => (wok e he).1, fun e he => (wok e he).2⟩, c2, c3, fun e he => (by obtain ⟨j, e1, _⟩ := c1 e he; omega)⟩
    obtain ⟨j, e1, e2⟩ := c1 e he
    rw [e1, show s.length + 1 + j = s.length + (1 + j) by omega, List.getElem?_append_right (by omega), show s.length + (1 + j) - s.length = j + 1 by omega, List.getElem?_cons_succ]
    exact e2
theorem Wc.app {n : Nat} {E : List We} (w : Wc ts s n E) (r : Sto) : Wc ts (s ++ r) n E := ⟨fun e he => by
  have := w.at_ e he
  rw [List.getElem?_append_left (List.getElem?_eq_some_iff.mp this).1]
  exact this, w.nm, w.ln⟩
def lstA (ts : List Tk) (A : List Wa) (rs : List Rd2) : List Wa := rs.foldl (fun A r => behA ts r.1 r.2 A) A
theorem rides_in (h : Ts ts) {N : Nat} {a4 a5 R : Option D} : ∀ (rs : List Rd2) (s : Sto) (n : Nat) (E : List We) (a3 : Option D), Nt ts s → (∀ r ∈ rs, okB r.1) → n + rs.length ≤ 5 → Wc ts s n E → E.length ≤ 4 ^ n → n + rs.length ≤ 4 → N ≤ s.length → (∀ e ∈ E, N ≤ e.2.2.1) →
    ∃ (F : List We) (r : Sto) (b3 : Option D), forL (tgN 3) g_least_tickets_b1 (rs.map rD) [some (.loc 0), R, some (.dcT (kS E) (vS E)), a3, a4, a5] s = .nx [some (.loc 0), R, some (.dcT (kS F) (vS F)), b3, a4, a5] (s ++ r) ∧ Wc ts (s ++ r) (n + rs.length) F ∧ F.map stp = lstA ts (E.map stp) rs ∧ ∀ e ∈ F, N ≤ e.2.2.1
  | [], s, n, E, a3, hs, _, _, w, _, _, _, hN => ⟨E, [], a3, by rw [List.append_nil]; rfl, by rw [List.append_nil]; exact w, rfl, hN⟩
  | (b, m) :: rs, s, n, E, a3, hs, ho, hn, w, hl, h4, hS, hN => by
    rw [List.length_cons] at hn h4
    have p3 : 4 ^ n ≤ 4 ^ 3 := Nat.pow_le_pow_right (by decide) (by omega)
    obtain ⟨F1, r1, c1, c2, c3, c4, c5⟩ := p_behind h hs (m := m) (ho (b, m) List.mem_cons_self) (by omega) w (by omega)
    obtain ⟨F, r2, b3, d1, d2, d3, d4⟩ := rides_in h (N := N) (a4 := a4) (a5 := a5) (R := R) rs (s ++ r1) (n + 1) F1 (some (rD (b, m))) (hs.app r1) (fun r hr => ho r (List.mem_cons_of_mem _ hr)) (by omega) c2 (by rw [Nat.pow_succ]; omega) (by omega) (by rw [List.length_append]; omega) (fun e he => Nat.le_trans hS (c5 e he))
    refine ⟨F, r1 ++ r2, b3, ?_, ?_, ?_, d4⟩
    · have body : g_least_tickets_b1 [some (.loc 0), R, some (.dcT (kS E) (vS E)), some (rD (b, m)), a4, a5] s = .nx [some (.loc 0), R, some (.dcT (kS F1) (vS F1)), some (rD (b, m)), a4, a5] (s ++ r1) := by
        unfold g_least_tickets_b1
        generalize f_behind_ride = G at c1
        generalize s ++ r1 = S1 at *
        simp [c1]
      rw [List.map_cons, forL_next (δ1 := [some (.loc 0), R, some (.dcT (kS E) (vS E)), some (rD (b, m)), a4, a5]) rfl body, ← List.append_assoc]
      exact d1
    · rw [← List.append_assoc, List.length_cons, show n + (rs.length + 1) = n + 1 + rs.length by omega]
      exact d2
    · rw [d3, c3]
      rfl
/-- the first cheapest one -/
def bst : Option We → List We → Option We
  | o, [] => o
  | none, e :: E => bst (some e) E
  | some x, e :: E => if e.2.1 < x.2.1 then bst (some e) E else bst (some x) E
def oW : Option We → D
  | none => .non
  | some e => wV e
theorem best_in {a1 a2 a3 : Option D} : ∀ (E : List We) (o : Option We) (a5 : Option D), ∃ b5, forL (tgN 5) g_least_tickets_b2 (vS E) [some (.loc 0), a1, a2, a3, some (oW o), a5] s = .nx [some (.loc 0), a1, a2, a3, some (oW (bst o E)), b5] s
  | [], o, a5 => ⟨a5, by cases o <;> rfl⟩
  | e :: E, none, a5 => by
    obtain ⟨b5, q⟩ := best_in (a1 := a1) (a2 := a2) (a3 := a3) E (some e) (some (wV e))
    refine ⟨b5, ?_⟩
    have body : g_least_tickets_b2 [some (.loc 0), a1, a2, a3, some (oW none), some (wV e)] s = .nx [some (.loc 0), a1, a2, a3, some (oW (some e)), some (wV e)] s := by
      simp [g_least_tickets_b2, oW]
    show forL _ _ (wV e :: vS E) _ _ = _
    rw [forL_next (δ1 := [some (.loc 0), a1, a2, a3, some (oW none), some (wV e)]) rfl body, q]
    rfl
  | e :: E, some x, a5 => by
    by_cases c : e.2.1 < x.2.1
    · obtain ⟨b5, q⟩ := best_in (a1 := a1) (a2 := a2) (a3 := a3) E (some e) (some (wV e))
      refine ⟨b5, ?_⟩
      have body : g_least_tickets_b2 [some (.loc 0), a1, a2, a3, some (oW (some x)), some (wV e)] s = .nx [some (.loc 0), a1, a2, a3, some (oW (some e)), some (wV e)] s := by
        simp [g_least_tickets_b2, oW, wV, c]
      show forL _ _ (wV e :: vS E) _ _ = _
      rw [forL_next (δ1 := [some (.loc 0), a1, a2, a3, some (oW (some x)), some (wV e)]) rfl body, q]
      show _ = Out.nx [some (.loc 0), a1, a2, a3, some (oW (if e.2.1 < x.2.1 then bst (some e) E else bst (some x) E)), b5] s
      rw [if_pos c]
    · obtain ⟨b5, q⟩ := best_in (a1 := a1) (a2 := a2) (a3 := a3) E (some x) (some (wV e))
      refine ⟨b5, ?_⟩
      have c' : x.2.1 ≤ e.2.1 := by omega
      have body : g_least_tickets_b2 [some (.loc 0), a1, a2, a3, some (oW (some x)), some (wV e)] s = .nx [some (.loc 0), a1, a2, a3, some (oW (some x)), some (wV e)] s := by
        have c2 : ¬ e.2.1 < x.2.1 := c
        simp [g_least_tickets_b2, oW, wV]
        intro q
        exact absurd q c2
      show forL _ _ (wV e :: vS E) _ _ = _
      rw [forL_next (δ1 := [some (.loc 0), a1, a2, a3, some (oW (some x)), some (wV e)]) rfl body, q]
      show _ = Out.nx [some (.loc 0), a1, a2, a3, some (oW (if e.2.1 < x.2.1 then bst (some e) E else bst (some x) E)), b5] s
      rw [if_neg c]
end
end Rb
namespace Rb
open PySem PySem.Spec L2 Mp
def bstA : Option Wa → List Wa → Option Wa
  | o, [] => o
  | none, e :: E => bstA (some e) E
  | some x, e :: E => if e.2.1 < x.2.1 then bstA (some e) E else bstA (some x) E
theorem bst_stp : ∀ (E : List We) (o : Option We), (bst o E).map stp = bstA (o.map stp) (E.map stp)
  | [], o => by cases o <;> rfl
  | e :: E, none => bst_stp E (some e)
  | e :: E, some x => by
    show (if e.2.1 < x.2.1 then bst (some e) E else bst (some x) E).map stp = if e.2.1 < x.2.1 then bstA (some (stp e)) (E.map stp) else bstA (some (stp x)) (E.map stp)
    by_cases c : e.2.1 < x.2.1
    · rw [if_pos c, if_pos c]; exact bst_stp E (some e)
    · rw [if_neg c, if_neg c]; exact bst_stp E (some x)
theorem bst_mem : ∀ (E : List We) (o : Option We) {e : We}, bst o E = some e → e ∈ E ∨ o = some e
  | [], o, e, h => by
    cases o with
    | none => cases h
    | some x => exact .inr h
  | x :: E, none, e, h => by
    rcases bst_mem E (some x) h with h | h
    · exact .inl (List.mem_cons_of_mem _ h)
    · cases h; exact .inl List.mem_cons_self
  | x :: E, some y, e, h => by
    have h : (if x.2.1 < y.2.1 then bst (some x) E else bst (some y) E) = some e := h
    split at h
    · rcases bst_mem E (some x) h with h | h
      · exact .inl (List.mem_cons_of_mem _ h)
      · cases h; exact .inl List.mem_cons_self
    · rcases bst_mem E (some y) h with h | h
      · exact .inl (List.mem_cons_of_mem _ h)
      · exact .inr h
abbrev A0 : List Wa := [((none, -1), 0, [])]
theorem p_least {ts : List Tk} (h : Ts ts) {s : Sto} (hs : Nt ts s) {rs : List Rd2} (ho : ∀ r ∈ rs, okB r.1) (hl : rs.length ≤ 4) :
    ∃ (o : Option We) (r : Sto), f_least_tickets [.loc 0, .lst (rs.map rD)] s = .ok (oW o) (s ++ r) ∧ o.map stp = bstA none (lstA ts A0 rs) ∧ ∀ e, o = some e → (s ++ r)[e.2.2.1]? = some (.lst (e.2.2.2.map bD)) ∧ e.2.2.2.length = rs.length ∧ s.length ≤ e.2.2.1 := by
  let E0 : List We := [((none, -1), 0, s.length, [])]
  have w0 : Wc ts (s ++ [.lst [], .dead]) 0 E0 := by
    constructor
    · intro e he
      rw [List.mem_singleton] at he
      subst he
      simp
    · intro e he z hz
      rw [List.mem_singleton] at he
      subst he
      cases hz
    · intro e he
      rw [List.mem_singleton] at he
      subst he
      rfl
  obtain ⟨F, r1, b3, c1, c2, c3, c4⟩ := rides_in h (N := s.length) (a4 := none) (a5 := none) (R := some (.lst (rs.map rD))) rs (s ++ [.lst [], .dead]) 0 E0 none (hs.app _) ho (by omega) w0 (by simp [E0]) (by omega) (by simp) (fun e he => by
    rw [List.mem_singleton] at he
    subst he
    exact Nat.le_refl _)
  rw [Nat.zero_add] at c2
  obtain ⟨b5, c5⟩ := best_in (s := s ++ [.lst [], .dead] ++ r1) (a1 := some (.lst (rs.map rD))) (a2 := some (.dcT (kS F) (vS F))) (a3 := b3) F none none
  have key : g_least_tickets [some (.loc 0), some (.lst (rs.map rD)), none, none, none, none] s = .rt (oW (bst none F)) (s ++ [.lst [], .dead] ++ r1) := by
    unfold g_least_tickets
    refine seq_step (δ' := [some (.loc 0), some (.lst (rs.map rD)), some (.loc (s.length + 1)), none, none, none]) (s' := s ++ [.lst [], .dcT (kS E0) (vS E0)]) (by
      simp [dDispT, psCons, psNil, lim_eq, putAllT, keyT, keysT, keyA, keyD, setTk, setTv, E0, kD, wV, bD]) ?_
    refine seq_step (δ' := [some (.loc 0), some (.lst (rs.map rD)), some (.dcT (kS E0) (vS E0)), none, none, none]) (s' := s ++ [.lst [], .dead]) (by
      have : lckD (s ++ [Cell.lst [], .dcT (kS E0) (vS E0)]) (.loc (s.length + 1)) = some (.dcT (kS E0) (vS E0), s ++ [.lst [], .dead]) := by
        unfold lckD
        simp
      unfold sLck
      dsimp only [List.getElem?_cons_succ, List.getElem?_cons_zero]
      rw [this]
      rfl) ?_
    refine seq_step (δ' := [some (.loc 0), some (.lst (rs.map rD)), some (.dcT (kS F) (vS F)), b3, none, none]) (s' := s ++ [.lst [], .dead] ++ r1) (by
      rw [sFor_eq]
      exact c1) ?_
    refine seq_step (δ' := [some (.loc 0), some (.lst (rs.map rD)), some (.dcT (kS F) (vS F)), b3, some (oW none), none]) (s' := s ++ [.lst [], .dead] ++ r1) rfl ?_
    refine seq_step (by
      rw [sFor_eq]
      exact c5) ?_
    rfl
  have fin : f_least_tickets [.loc 0, .lst (rs.map rD)] s = cut s.length (oW (bst none F)) (s ++ ([.lst [], .dead] ++ r1)) := by
    show finO s.length (g_least_tickets [some (.loc 0), some (.lst (rs.map rD)), none, none, none, none] s) = _
    rw [key, List.append_assoc]
    rfl
  have em : (bst none F).map stp = bstA none (lstA ts A0 rs) := by rw [bst_stp, c3]; rfl
  cases ho : bst none F with
  | none =>
    rw [ho] at fin em
    obtain ⟨r', e⟩ := cut_some (s := s) (r := [.lst [], .dead] ++ r1) (d := oW none) rfl
    exact ⟨none, r', by rw [fin, e], em, fun e he => by cases he⟩
  | some e =>
    rw [ho] at fin em
    have he : e ∈ F := by
      rcases bst_mem F none ho with h | h
      · exact h
      · cases h
    have lo := c4 e he
    refine ⟨some e, [.lst [], .dead] ++ r1, by
      rw [fin]
      refine cut_keepD ?_
      show (below s.length (.int e.2.1) && (below s.length (.loc e.2.2.1) && true)) = false
      simp [below]
      omega, em, fun x hx => ?_⟩
    cases hx
    have := c2.at_ e he
    rw [List.append_assoc] at this
    exact ⟨this, c2.ln e he, lo⟩
end Rb
namespace Rb
open PySem PySem.Spec L2 Mp
/-! ### the plain law: the ways kept are the least ones -/
def goK (ts : List Tk) (sp : Int) (k : HK) : List (Rd2 × Bt) → Option (HK × Int)
  | [] => some (k, sp)
  | ((b, m), some n) :: r => match fnd ts n with
    | some t => if fitsZ b t.b = true then goK ts (sp + t.pr) (some n, m + t.la) r else none
    | none => none
  | ((b, m), none) :: r => if hst ts k b m = true then goK ts sp k r else none
def hK : Option (Tk × Int) → HK
  | none => (none, -1)
  | some (t, u) => (some t.nm, u)
theorem fnd_nm {ts : List Tk} {n : List Nat} {t : Tk} (h : fnd ts n = some t) : t ∈ ts ∧ t.nm = n := by
  unfold fnd at h
  exact ⟨List.mem_of_find?_eq_some h, by simpa using List.find?_some h⟩
theorem goK_go {ts : List Tk} : ∀ (L : List (Rd2 × Bt)) (sp : Int) (held : Option (Tk × Int)), (∀ t u, held = some (t, u) → fnd ts t.nm = some t) → (goK ts sp (hK held) L).map (fun x => x.2) = go ts sp held L
  | [], sp, held, _ => rfl
  | ((b, m), some n) :: r, sp, held, _ => by
    unfold goK go
    cases e : fnd ts n with
    | none => rfl
    | some t =>
      dsimp only
      split
      · have := goK_go r (sp + t.pr) (some (t, m + t.la)) (fun t' u q => by
          cases q
          rw [(fnd_nm e).2]
          exact e)
        rw [← this, show hK (some (t, m + t.la)) = (some n, m + t.la) by rw [← (fnd_nm e).2]; rfl]
      · rfl
  | ((b, m), none) :: r, sp, none, _ => by
    unfold goK go hst hK
    simp
  | ((b, m), none) :: r, sp, some (t, u), hh => by
    have q := hh t u rfl
    unfold goK go
    have e : hst ts (hK (some (t, u))) b m = (decide (m < u) && fitsZ b t.b) := by
      unfold hst hK
      dsimp only
      rw [q]
    rw [e]
    dsimp only
    by_cases c : m < u ∧ fitsZ b t.b = true
    · rw [if_pos c, if_pos (by simp [c.1, c.2])]
      exact goK_go r sp (some (t, u)) hh
    · rw [if_neg c, if_neg (by simpa using c)]
      rfl
theorem goK_s {ts : List Tk} {sp : Int} {k : HK} {b m : Int} {n : List Nat} {r : List (Rd2 × Bt)} : goK ts sp k (((b, m), some n) :: r) = match fnd ts n with
    | some t => if fitsZ b t.b = true then goK ts (sp + t.pr) (some n, m + t.la) r else none
    | none => none := rfl
theorem goK_n {ts : List Tk} {sp : Int} {k : HK} {b m : Int} {r : List (Rd2 × Bt)} : goK ts sp k (((b, m), none) :: r) = if hst ts k b m = true then goK ts sp k r else none := rfl
theorem goK_app {ts : List Tk} : ∀ (L : List (Rd2 × Bt)) (L2 : List (Rd2 × Bt)) (sp : Int) (k : HK), goK ts sp k (L ++ L2) = (goK ts sp k L).bind fun x => goK ts x.2 x.1 L2
  | [], L2, sp, k => rfl
  | ((b, m), some n) :: r, L2, sp, k => by
    rw [List.cons_append, goK_s, goK_s]
    cases fnd ts n with
    | none => rfl
    | some t =>
      dsimp only
      split
      · exact goK_app r L2 _ _
      · rfl
  | ((b, m), none) :: r, L2, sp, k => by
    rw [List.cons_append, goK_n, goK_n]
    split
    · exact goK_app r L2 _ _
    · rfl
theorem wgA_mem {k : HK} {a : Wa} : ∀ {A : List Wa}, wgA k A = some a → a ∈ A ∧ a.1 = k
  | [], h => by cases h
  | x :: A, h => by
    unfold wgA at h
    split at h
    · cases h
      exact ⟨List.mem_cons_self, by assumption⟩
    · exact ⟨List.mem_cons_of_mem _ (wgA_mem h).1, (wgA_mem h).2⟩
theorem wgA_c {k : HK} {x : Wa} {A : List Wa} : wgA k (x :: A) = if x.1 = k then some x else wgA k A := rfl
theorem wgA_app {k : HK} : ∀ {A B : List Wa}, wgA k (A ++ B) = match wgA k A with | some a => some a | none => wgA k B
  | [], B => rfl
  | x :: A, B => by
    rw [List.cons_append, wgA_c, wgA_c]
    split
    · rfl
    · exact wgA_app
theorem wgA_any {k : HK} : ∀ {A : List Wa}, (A.any fun x => decide (x.1 = k)) = (wgA k A).isSome
  | [] => rfl
  | x :: A => by
    unfold wgA
    rw [List.any_cons, wgA_any]
    by_cases h : x.1 = k <;> simp [h]
theorem wgA_map {e : Wa} {k : HK} : ∀ {A : List Wa}, wgA k (A.map fun x => if x.1 = e.1 then e else x) = if k = e.1 then (wgA k A).map (fun _ => e) else wgA k A
  | [] => by simp [wgA]
  | x :: A => by
    rw [List.map_cons]
    unfold wgA
    rw [wgA_map]
    by_cases h : x.1 = e.1
    · rw [if_pos h]
      by_cases c : k = e.1
      · subst c
        simp [h]
      · simp [c, Ne.symm c, h]
    · rw [if_neg h]
      by_cases c : k = e.1
      · subst c
        simp [h]
      · simp [c]
theorem wgA_put {e : Wa} {k : HK} {A : List Wa} : wgA k (wputA e A) = if k = e.1 then some e else wgA k A := by
  unfold wputA
  rw [wgA_any]
  cases q : wgA e.1 A with
  | some x =>
    rw [if_pos (by rfl), wgA_map]
    by_cases c : k = e.1
    · subst c
      simp [q]
    · simp [c]
  | none =>
    rw [if_neg (by simp), wgA_app]
    by_cases c : k = e.1
    · subst c
      simp [q, wgA]
    · cases wgA k A with
      | some a => simp [c]
      | none => simp [c, wgA, Ne.symm c]
def LEA (A : List Wa) (k : HK) (p : Int) : Prop := ∃ a, wgA k A = some a ∧ a.2.1 ≤ p
theorem keep_self {e : Wa} {A : List Wa} : LEA (wkeepA e A) e.1 e.2.1 := by
  unfold wkeepA LEA
  cases q : wgA e.1 A with
  | none => exact ⟨e, by rw [wgA_put, if_pos rfl], Int.le_refl _⟩
  | some x =>
    dsimp only
    split
    · exact ⟨e, by rw [wgA_put, if_pos rfl], Int.le_refl _⟩
    · exact ⟨x, q, by omega⟩
theorem keep_le {e : Wa} {A : List Wa} {k : HK} {p : Int} (h : LEA A k p) : LEA (wkeepA e A) k p := by
  obtain ⟨a, h1, h2⟩ := h
  unfold wkeepA LEA
  cases q : wgA e.1 A with
  | none =>
    refine ⟨a, ?_, h2⟩
    rw [wgA_put, if_neg (fun c => by
      subst c
      rw [q] at h1
      cases h1)]
    exact h1
  | some x =>
    dsimp only
    split
    · by_cases c : k = e.1
      · subst c
        rw [q] at h1
        cases h1
        exact ⟨e, by rw [wgA_put, if_pos rfl], by omega⟩
      · exact ⟨a, by rw [wgA_put, if_neg c]; exact h1, h2⟩
    · exact ⟨a, h1, h2⟩
theorem fold_le : ∀ (cs : List Wa) (F : List Wa) {k : HK} {p : Int}, (LEA F k p ∨ ∃ c ∈ cs, c.1 = k ∧ c.2.1 ≤ p) → LEA (cs.foldl (fun F c => wkeepA c F) F) k p
  | [], F, k, p, h => by
    rcases h with h | ⟨c, hc, _⟩
    · exact h
    · cases hc
  | c :: cs, F, k, p, h => by
    refine fold_le cs (wkeepA c F) ?_
    rcases h with h | ⟨d, hd, h1, h2⟩
    · exact .inl (keep_le h)
    · rcases List.mem_cons.mp hd with rfl | hd
      · refine .inl ?_
        subst h1
        obtain ⟨a, q1, q2⟩ := keep_self (e := d) (A := F)
        exact ⟨a, q1, by omega⟩
      · exact .inr ⟨d, hd, h1, h2⟩
structure InvA (ts : List Tk) (ps : List Rd2) (A : List Wa) : Prop where
  so : ∀ a ∈ A, bsOk ts a.2.2 ∧ a.2.2.length = ps.length ∧ goK ts 0 (none, -1) (ps.zip a.2.2) = some (a.1, a.2.1)
  co : ∀ bs k p, bs.length = ps.length → goK ts 0 (none, -1) (ps.zip bs) = some (k, p) → LEA A k p
theorem inv_step {ts : List Tk} (h : Ts ts) {ps : List Rd2} {A : List Wa} {b m : Int} (w : InvA ts ps A) : InvA ts (ps ++ [(b, m)]) (behA ts b m A) := by
  constructor
  · intro c hc
    obtain ⟨a, ha, hc⟩ := behA_mem hc
    obtain ⟨w1, w2, w3⟩ := w.so a ha
    have zz : ∀ x : Bt, (ps ++ [(b, m)]).zip (a.2.2 ++ [x]) = ps.zip a.2.2 ++ [((b, m), x)] := fun x => by
      rw [List.zip_append w2.symm]; rfl
    unfold cnd at hc
    rcases List.mem_append.mp hc with hc | hc
    · split at hc
      · rename_i q
        rw [List.mem_singleton] at hc
        subst hc
        refine ⟨fun x hx n e => ?_, by simp [w2], ?_⟩
        · rcases List.mem_append.mp hx with hx | hx
          · exact w1 x hx n e
          · rw [List.mem_singleton] at hx
            subst hx
            cases e
        · show goK ts 0 (none, -1) ((ps ++ [(b, m)]).zip (a.2.2 ++ [none])) = _
          rw [zz, goK_app, w3]
          show goK ts a.2.1 a.1 [((b, m), none)] = _
          rw [goK_n, if_pos q]
          rfl
      · cases hc
    · obtain ⟨t, ht, rfl⟩ := List.mem_map.mp hc
      obtain ⟨t1, t2⟩ := List.mem_filter.mp ht
      refine ⟨fun x hx n e => ?_, by simp [w2], ?_⟩
      · rcases List.mem_append.mp hx with hx | hx
        · exact w1 x hx n e
        · rw [List.mem_singleton] at hx
          subst hx
          cases e
          exact List.mem_map_of_mem t1
      · show goK ts 0 (none, -1) ((ps ++ [(b, m)]).zip (a.2.2 ++ [some t.nm])) = _
        rw [zz, goK_app, w3]
        show goK ts a.2.1 a.1 [((b, m), some t.nm)] = _
        obtain ⟨u, hu, e1, e2, e3⟩ := fnd_ok h (List.mem_map_of_mem (f := Tk.nm) t1)
        have eu : t = u := by
          have : t ∈ ts.filter (fun v => v.nm == t.nm) := List.mem_filter.mpr ⟨t1, by simp⟩
          rw [e3] at this
          exact List.mem_singleton.mp this
        subst eu
        rw [goK_s, e2]
        dsimp only
        rw [if_pos t2]
        rfl
  · intro bs' k p hl hg
    rw [List.length_append, List.length_singleton] at hl
    obtain ⟨bs, x, rfl⟩ : ∃ bs x, bs' = bs ++ [x] := by
      rcases List.eq_nil_or_concat bs' with e | ⟨bs, x, e⟩
      · rw [e] at hl; simp at hl
      · exact ⟨bs, x, by rw [e, List.concat_eq_append]⟩
    rw [List.length_append, List.length_singleton] at hl
    have hl : bs.length = ps.length := by omega
    rw [List.zip_append hl.symm, goK_app] at hg
    cases q : goK ts 0 (none, -1) (ps.zip bs) with
    | none => rw [q] at hg; cases hg
    | some kp =>
      obtain ⟨k1, p1⟩ := kp
      rw [q] at hg
      have hg : goK ts p1 k1 [((b, m), x)] = some (k, p) := hg
      obtain ⟨a, a1, a2⟩ := w.co bs k1 p1 hl q
      obtain ⟨a3, a4⟩ := wgA_mem a1
      refine fold_le _ _ (.inr ?_)
      cases x with
      | none =>
        rw [goK_n] at hg
        split at hg
        · rename_i c
          have hg : some (k1, p1) = some (k, p) := hg
          cases hg
          refine ⟨(a.1, a.2.1, a.2.2 ++ [none]), List.mem_flatMap.mpr ⟨a, a3, ?_⟩, a4, a2⟩
          unfold cnd
          rw [a4, if_pos c]
          simp
        · cases hg
      | some n =>
        rw [goK_s] at hg
        cases f : fnd ts n with
        | none => rw [f] at hg; cases hg
        | some t =>
          rw [f] at hg
          dsimp only at hg
          obtain ⟨f1, f2⟩ := fnd_nm f
          split at hg
          · rename_i c
            have hg : some (((some n, m + t.la) : HK), p1 + t.pr) = some (k, p) := hg
            cases hg
            refine ⟨((some t.nm, m + t.la), a.2.1 + t.pr, a.2.2 ++ [some t.nm]), List.mem_flatMap.mpr ⟨a, a3, ?_⟩, by rw [f2], ?_⟩
            · unfold cnd
              exact List.mem_append.mpr (.inr (List.mem_map.mpr ⟨t, List.mem_filter.mpr ⟨f1, c⟩, rfl⟩))
            · show a.2.1 + t.pr ≤ p1 + t.pr
              omega
          · cases hg
theorem inv_all {ts : List Tk} (h : Ts ts) : ∀ (rs ps : List Rd2) (A : List Wa), InvA ts ps A → InvA ts (ps ++ rs) (lstA ts A rs)
  | [], ps, A, w => by rw [List.append_nil]; exact w
  | (b, m) :: rs, ps, A, w => by
    have := inv_all h rs (ps ++ [(b, m)]) (behA ts b m A) (inv_step h w)
    rw [List.append_assoc] at this
    exact this
theorem inv_0 {ts : List Tk} : InvA ts [] A0 := by
  constructor
  · intro a ha
    rw [List.mem_singleton] at ha
    subst ha
    exact ⟨(fun b hb => by cases hb), rfl, rfl⟩
  · intro bs k p hl hg
    have hg : some (((none, -1) : HK), (0 : Int)) = some (k, p) := hg
    cases hg
    exact ⟨_, rfl, Int.le_refl _⟩
theorem bstA_some : ∀ (A : List Wa) (x : Wa), ∃ a, bstA (some x) A = some a ∧ (a = x ∨ a ∈ A) ∧ a.2.1 ≤ x.2.1 ∧ ∀ y ∈ A, a.2.1 ≤ y.2.1
  | [], x => ⟨x, rfl, .inl rfl, Int.le_refl _, fun y hy => by cases hy⟩
  | e :: A, x => by
    show ∃ a, (if e.2.1 < x.2.1 then bstA (some e) A else bstA (some x) A) = some a ∧ _
    split
    · obtain ⟨a, h1, h2, h3, h4⟩ := bstA_some A e
      refine ⟨a, h1, .inr ?_, by omega, fun y hy => ?_⟩
      · rcases h2 with rfl | h2
        · exact List.mem_cons_self
        · exact List.mem_cons_of_mem _ h2
      · rcases List.mem_cons.mp hy with rfl | hy
        · exact h3
        · exact h4 y hy
    · obtain ⟨a, h1, h2, h3, h4⟩ := bstA_some A x
      refine ⟨a, h1, ?_, h3, fun y hy => ?_⟩
      · rcases h2 with rfl | h2
        · exact .inl rfl
        · exact .inr (List.mem_cons_of_mem _ h2)
      · rcases List.mem_cons.mp hy with rfl | hy
        · omega
        · exact h4 y hy
def lsP (ts : List Tk) (rs : List Rd2) : Option Int := (bstA none (lstA ts A0 rs)).map fun a => a.2.1
/-- the least of all ways -/
structure IsL (ts : List Tk) (rs : List Rd2) (o : Option Int) : Prop where
  lo : ∀ bs p, bs.length = rs.length → go ts 0 none (rs.zip bs) = some p → ∃ q, o = some q ∧ q ≤ p
  at_ : ∀ q, o = some q → ∃ bs, bsOk ts bs ∧ bs.length = rs.length ∧ go ts 0 none (rs.zip bs) = some q
theorem go_K {ts : List Tk} {L : List (Rd2 × Bt)} : (goK ts 0 (none, -1) L).map (fun x => x.2) = go ts 0 none L := goK_go L 0 none (fun t u e => by cases e)
theorem lsP_ok {ts : List Tk} (h : Ts ts) {rs : List Rd2} : IsL ts rs (lsP ts rs) ∧ ∀ a, bstA none (lstA ts A0 rs) = some a → bsOk ts a.2.2 ∧ a.2.2.length = rs.length ∧ go ts 0 none (rs.zip a.2.2) = some a.2.1 := by
  have w := inv_all h rs [] A0 inv_0
  rw [List.nil_append] at w
  have mem : ∀ a, bstA none (lstA ts A0 rs) = some a → a ∈ lstA ts A0 rs := fun a ha => by
    cases q : lstA ts A0 rs with
    | nil => rw [q] at ha; cases ha
    | cons e A =>
      rw [q] at ha
      have ha : bstA (some e) A = some a := ha
      obtain ⟨x, h1, h2, _⟩ := bstA_some A e
      rw [h1] at ha
      cases ha
      rcases h2 with rfl | h2
      · exact List.mem_cons_self
      · exact List.mem_cons_of_mem _ h2
  have at1 : ∀ a, bstA none (lstA ts A0 rs) = some a → bsOk ts a.2.2 ∧ a.2.2.length = rs.length ∧ go ts 0 none (rs.zip a.2.2) = some a.2.1 := fun a ha => by
    obtain ⟨w1, w2, w3⟩ := w.so a (mem a ha)
    refine ⟨w1, w2, ?_⟩
    rw [← go_K, w3]
    rfl
  refine ⟨⟨fun bs p hl hg => ?_, fun q hq => ?_⟩, at1⟩
  · rw [← go_K] at hg
    cases e : goK ts 0 (none, -1) (rs.zip bs) with
    | none => rw [e] at hg; cases hg
    | some kp =>
      rw [e] at hg
      have hg : some kp.2 = some p := hg
      cases hg
      obtain ⟨a, a1, a2⟩ := w.co bs kp.1 kp.2 hl e
      obtain ⟨a3, a4⟩ := wgA_mem a1
      unfold lsP
      cases q : lstA ts A0 rs with
      | nil => rw [q] at a3; cases a3
      | cons x A =>
        obtain ⟨z, h1, h2, h3, h4⟩ := bstA_some A x
        refine ⟨z.2.1, by rw [show bstA none (x :: A) = bstA (some x) A from rfl, h1]; rfl, ?_⟩
        rw [q] at a3
        rcases List.mem_cons.mp a3 with rfl | a3
        · omega
        · have := h4 a a3
          omega
  · unfold lsP at hq
    cases e : bstA none (lstA ts A0 rs) with
    | none => rw [e] at hq; cases hq
    | some a =>
      rw [e] at hq
      cases hq
      exact ⟨a.2.2, at1 a e⟩
theorem isL_eq {ts : List Tk} {rs : List Rd2} {o p : Option Int} (h1 : IsL ts rs o) (h2 : IsL ts rs p) : o = p := by
  have side : ∀ {o p : Option Int}, IsL ts rs o → IsL ts rs p → ∀ q, o = some q → ∃ r, p = some r ∧ r ≤ q := fun h1 h2 q e => by
    obtain ⟨bs, _, b2, b3⟩ := h1.at_ q e
    exact h2.lo bs q b2 b3
  cases o with
  | none =>
    cases p with
    | none => rfl
    | some r =>
      obtain ⟨q, e, _⟩ := side h2 h1 r rfl
      cases e
  | some q =>
    obtain ⟨r, e, l⟩ := side h1 h2 q rfl
    subst e
    obtain ⟨q', e', l'⟩ := side h2 h1 r rfl
    cases e'
    congr 1
    omega
end Rb
namespace Rb
open PySem PySem.Spec L2 Mp
/-! ### all ways, one by one -/
def dg (K : List Bt) : Nat → Nat → List Bt
  | 0, _ => []
  | R + 1, j => (K[j % K.length]?.getD none) :: dg K R (j / K.length)
theorem dg_len {K : List Bt} : ∀ {R j : Nat}, (dg K R j).length = R
  | 0, _ => rfl
  | R + 1, j => by unfold dg; rw [List.length_cons, dg_len]
theorem dg_ok {ts : List Tk} : ∀ {R j : Nat}, bsOk ts (dg (someL ts) R j)
  | 0, _ => fun b hb => by cases hb
  | R + 1, j => by
    intro b hb n e
    unfold dg at hb
    rcases List.mem_cons.mp hb with hb | hb
    · subst e
      cases q : (someL ts)[j % (someL ts).length]? with
      | none => rw [q] at hb; cases hb
      | some x =>
        rw [q] at hb
        exact some_ok x (List.mem_of_getElem? q) n hb.symm
    · exact dg_ok b hb n e
theorem dg_all {K : List Bt} : ∀ (bs : List Bt), (∀ b ∈ bs, b ∈ K) → ∃ j, j < K.length ^ bs.length ∧ dg K bs.length j = bs
  | [], _ => ⟨0, by simp, rfl⟩
  | b :: bs, h => by
    obtain ⟨j, h1, h2⟩ := dg_all bs fun c hc => h c (List.mem_cons_of_mem _ hc)
    obtain ⟨i, hi, e⟩ := List.getElem_of_mem (h b List.mem_cons_self)
    have np : 0 < K.length := by omega
    refine ⟨i + K.length * j, ?_, ?_⟩
    · rw [List.length_cons, Nat.pow_succ, Nat.mul_comm (K.length ^ bs.length)]
      have : K.length * (j + 1) ≤ K.length * K.length ^ bs.length := Nat.mul_le_mul_left _ h1
      rw [Nat.mul_add, Nat.mul_one] at this
      omega
    · rw [List.length_cons]
      unfold dg
      rw [Nat.add_mul_mod_self_left, Nat.mod_eq_of_lt hi, Nat.add_mul_div_left _ _ np, Nat.div_eq_of_lt hi, Nat.zero_add, h2, List.getElem?_eq_getElem hi, e]
      rfl
theorem go_bs {ts : List Tk} : ∀ (rs : List Rd2) (bs : List Bt) (sp : Int) (held : Option (Tk × Int)) {p : Int}, bs.length = rs.length → go ts sp held (rs.zip bs) = some p → ∀ b ∈ bs, b ∈ someL ts
  | [], [], _, _, _, _, _ => fun b hb => by cases hb
  | [], _ :: _, _, _, _, h, _ => by simp at h
  | _ :: _, [], _, _, _, h, _ => by simp at h
  | (b, m) :: rs, c :: bs, sp, held, p, h, hg => by
    have h' : bs.length = rs.length := by simpa using h
    rw [List.zip_cons_cons] at hg
    intro x hx
    cases c with
    | none =>
      unfold go at hg
      cases held with
      | none => cases hg
      | some tu =>
        obtain ⟨t, u⟩ := tu
        dsimp only at hg
        split at hg
        · rcases List.mem_cons.mp hx with rfl | hx
          · exact List.mem_cons_self
          · exact go_bs rs bs _ _ h' hg x hx
        · cases hg
    | some n =>
      unfold go at hg
      cases f : fnd ts n with
      | none => rw [f] at hg; cases hg
      | some t =>
        rw [f] at hg
        dsimp only at hg
        split at hg
        · rcases List.mem_cons.mp hx with rfl | hx
          · refine List.mem_cons_of_mem _ (List.mem_map.mpr ⟨t, (fnd_nm f).1, by rw [(fnd_nm f).2]⟩)
          · exact go_bs rs bs _ _ h' hg x hx
        · cases hg
def upd (o x : Option Int) : Option Int := match x with
  | none => o
  | some v => match o with
    | none => some v
    | some w => if v < w then some v else some w
theorem upd_ok : ∀ (xs : List (Option Int)) (o : Option Int), (∀ p, (some p ∈ xs ∨ o = some p) → ∃ q, xs.foldl upd o = some q ∧ q ≤ p) ∧ ∀ q, xs.foldl upd o = some q → some q ∈ xs ∨ o = some q
  | [], o => ⟨fun p h => by
      rcases h with h | h
      · cases h
      · exact ⟨p, h, Int.le_refl _⟩, fun q h => .inr h⟩
  | x :: xs, o => by
    obtain ⟨i1, i2⟩ := upd_ok xs (upd o x)
    refine ⟨fun p h => ?_, fun q h => ?_⟩
    · have : ∃ r, upd o x = some r ∧ r ≤ p ∨ some p ∈ xs := by
        rcases h with h | h
        · rcases List.mem_cons.mp h with h | h
          · subst h
            cases o with
            | none => exact ⟨p, .inl ⟨rfl, Int.le_refl _⟩⟩
            | some w =>
              by_cases c : p < w
              · exact ⟨p, .inl ⟨if_pos c, Int.le_refl _⟩⟩
              · exact ⟨w, .inl ⟨if_neg c, by omega⟩⟩
          · exact ⟨0, .inr h⟩
        · subst h
          cases x with
          | none => exact ⟨p, .inl ⟨rfl, Int.le_refl _⟩⟩
          | some v =>
            by_cases c : v < p
            · exact ⟨v, .inl ⟨if_pos c, by omega⟩⟩
            · exact ⟨p, .inl ⟨if_neg c, Int.le_refl _⟩⟩
      obtain ⟨r, ⟨h1, h2⟩ | h1⟩ := this
      · obtain ⟨q, q1, q2⟩ := i1 r (.inr h1)
        exact ⟨q, q1, by omega⟩
      · exact i1 p (.inl h1)
    · rcases i2 q h with h | h
      · exact .inl (List.mem_cons_of_mem _ h)
      · cases x with
        | none => exact .inr h
        | some v =>
          cases o with
          | none => exact .inl (by rw [← h]; exact List.mem_cons_self)
          | some w =>
            have h : (if v < w then some v else some w) = some q := h
            split at h
            · exact .inl (by rw [← h]; exact List.mem_cons_self)
            · exact .inr h
def enumL (ts : List Tk) (rs : List Rd2) : List (Option Int) := (List.range ((someL ts).length ^ rs.length)).map fun j => go ts 0 none (rs.zip (dg (someL ts) rs.length j))
theorem enum_ok {ts : List Tk} {rs : List Rd2} : IsL ts rs ((enumL ts rs).foldl upd none) := by
  obtain ⟨i1, i2⟩ := upd_ok (enumL ts rs) none
  refine ⟨fun bs p hl hg => i1 p (.inl ?_), fun q hq => ?_⟩
  · obtain ⟨j, h1, h2⟩ := dg_all (K := someL ts) bs (go_bs rs bs 0 none hl hg)
    rw [hl] at h1 h2
    exact List.mem_map.mpr ⟨j, List.mem_range.mpr h1, by rw [h2]; exact hg⟩
  · rcases i2 q hq with h | h
    · obtain ⟨j, h1, h2⟩ := List.mem_map.mp h
      exact ⟨_, dg_ok, dg_len, h2⟩
    · cases h
theorem enum_eq {ts : List Tk} (h : Ts ts) {rs : List Rd2} : (enumL ts rs).foldl upd none = lsP ts rs := isL_eq enum_ok (lsP_ok h).1
end Rb
namespace Rb
open PySem PySem.Spec L2 Mp
theorem frz_s {δ : Mp.Env} {s : Sto} {i : Nat} {xs : List D} (h : δ[i]? = some (some (.loc s.length))) : sFrz i δ (s ++ [.lst xs]) = .nx (δ.set i (some (.lst xs))) (s ++ [.dead]) := by
  unfold sFrz frzD
  rw [h]
  simp
theorem dig_in {K : List Bt} (hK : 0 < K.length) (hK4 : K.length ≤ 4) {s : Sto} {T Rl o3 o7 o8 : Option D} : ∀ (rs : List Rd2) (j : Nat) (acc : List Bt) (o6 : Option D), acc.length + rs.length ≤ 20 →
    ∃ (j' : Nat) (p6 : Option D), forL (tgN 6) g__law_least_b1 (rs.map rD) [T, Rl, some (.lst (K.map bD)), o3, some (.int (j : Int)), some (.loc s.length), o6, o7, o8] (s ++ [.lst (acc.map bD)]) = .nx [T, Rl, some (.lst (K.map bD)), o3, some (.int (j' : Int)), some (.loc s.length), p6, o7, o8] (s ++ [.lst ((acc ++ dg K rs.length j).map bD)])
  | [], j, acc, o6, _ => ⟨j, o6, by rw [show dg K ([] : List Rd2).length j = [] from rfl, List.append_nil]; rfl⟩
  | r :: rs, j, acc, o6, hl => by
    rw [List.length_cons] at hl
    have hm := Nat.mod_lt j hK
    obtain ⟨x, hx⟩ : ∃ x, K[j % K.length]? = some x := ⟨_, List.getElem?_eq_getElem hm⟩
    obtain ⟨j', p6, e⟩ := dig_in hK hK4 (s := s) (T := T) (Rl := Rl) (o3 := o3) (o7 := o7) (o8 := o8) rs (j / K.length) (acc ++ [x]) (some (rD r)) (by simp; omega)
    refine ⟨j', p6, ?_⟩
    have body : g__law_least_b1 [T, Rl, some (.lst (K.map bD)), o3, some (.int (j : Int)), some (.loc s.length), some (rD r), o7, o8] (s ++ [.lst (acc.map bD)]) = .nx [T, Rl, some (.lst (K.map bD)), o3, some (.int ((j / K.length : Nat) : Int)), some (.loc s.length), some (rD r), o7, o8] (s ++ [.lst ((acc ++ [x]).map bD)]) := by
      have hp' : (0 : Int) < K.length := by omega
      have h1 : atI (K.map bD) ((j : Int) % (K.length : Int)) = some (bD x) := by
        rw [← Int.natCast_emod, atI_natc, List.getElem?_map, hx]
        rfl
      have hl2 : acc.length < 1000000 := by omega
      have hk2 : K.length ≤ 1000000 := by omega
      have hk3 : (K.length : Int) < 1073741824 := by omega
      generalize rD r = RD
      have lK : (K.map bD).length = K.length := List.length_map ..
      generalize K.map bD = KD at *
      simp [g__law_least_b1, h1, lK, hp', hK, lim_eq, hl2, hk2, hk3]
    rw [List.map_cons, forL_next (δ1 := [T, Rl, some (.lst (K.map bD)), o3, some (.int (j : Int)), some (.loc s.length), some (rD r), o7, o8]) rfl body]
    rw [e, List.append_assoc]
    have : [x] ++ dg K rs.length (j / K.length) = dg K (r :: rs).length j := by
      rw [List.length_cons]
      show _ = (K[j % K.length]?.getD none) :: dg K rs.length (j / K.length)
      rw [hx]
      rfl
    rw [this]
theorem least_in {ts : List Tk} (h : Ts ts) {rs : List Rd2} (hr : ∀ r ∈ rs, okB r.1) (hl : rs.length ≤ 4) {o8 : Option D} : ∀ (js : List Nat) (o : Option Int) (s : Sto) (o4 o5 o6 o7 : Option D),
    ∃ (r : Sto) (p4 p5 p6 p7 : Option D), forL (tgN 4) g__law_least_b2 (js.map fun (j : Nat) => D.int (j : Int)) [some (.lst (ts.map Tk.d)), some (.lst (rs.map rD)), some (.lst ((someL ts).map bD)), some (oD o), o4, o5, o6, o7, o8] s =
      .nx [some (.lst (ts.map Tk.d)), some (.lst (rs.map rD)), some (.lst ((someL ts).map bD)), some (oD ((js.map fun j => go ts 0 none (rs.zip (dg (someL ts) rs.length j))).foldl upd o)), p4, p5, p6, p7, o8] (s ++ r)
  | [], o, s, o4, o5, o6, o7 => ⟨[], o4, o5, o6, o7, by rw [List.append_nil]; rfl⟩
  | j :: js, o, s, o4, o5, o6, o7 => by
    have hK : 0 < (someL ts).length := by simp [someL]
    have hK4 : (someL ts).length ≤ 4 := by have := h.le; simp [someL]; omega
    obtain ⟨j', p6, e⟩ := dig_in hK hK4 (s := s) (T := some (.lst (ts.map Tk.d))) (Rl := some (.lst (rs.map rD))) (o3 := some (oD o)) (o7 := o7) (o8 := o8) rs j [] o6 (by simp; omega)
    rw [List.nil_append] at e
    have sp := p_spent h (s := s ++ [.dead]) (rs := rs) (bs := dg (someL ts) rs.length j) (okL_of hr dg_ok)
    obtain ⟨g, hg⟩ : ∃ g, g = go ts 0 none (rs.zip (dg (someL ts) rs.length j)) := ⟨_, rfl⟩
    rw [← hg] at sp
    obtain ⟨r, p4, p5, p6', p7, f⟩ := least_in h hr hl (o8 := o8) js (upd o g) (s ++ [.dead]) (some (.int (j' : Int))) (some (.lst ((dg (someL ts) rs.length j).map bD))) p6 (some (oD g))
    refine ⟨[.dead] ++ r, p4, p5, p6', p7, ?_⟩
    have body : g__law_least_b2 [some (.lst (ts.map Tk.d)), some (.lst (rs.map rD)), some (.lst ((someL ts).map bD)), some (oD o), some (.int (j : Int)), o5, o6, o7, o8] s =
        .nx [some (.lst (ts.map Tk.d)), some (.lst (rs.map rD)), some (.lst ((someL ts).map bD)), some (oD (upd o g)), some (.int (j' : Int)), some (.lst ((dg (someL ts) rs.length j).map bD)), p6, some (oD g), o8] (s ++ [.dead]) := by
      unfold g__law_least_b2
      refine seq_step (δ' := [some (.lst (ts.map Tk.d)), some (.lst (rs.map rD)), some (.lst ((someL ts).map bD)), some (oD o), some (.int (j : Int)), some (.loc s.length), o6, o7, o8]) (s' := s ++ [.lst []]) (by simp [lim_eq]) ?_
      refine seq_step (by
        rw [sFor_eq]
        exact e) ?_
      refine seq_step (frz_s rfl) ?_
      refine seq_step (δ' := [some (.lst (ts.map Tk.d)), some (.lst (rs.map rD)), some (.lst ((someL ts).map bD)), some (oD o), some (.int (j' : Int)), some (.lst ((dg (someL ts) rs.length j).map bD)), p6, some (oD g), o8]) (s' := s ++ [.dead]) (by
        generalize s ++ [Cell.dead] = S at *
        generalize (dg (someL ts) rs.length j).map bD = B at *
        generalize (someL ts).map bD = K at *
        generalize ts.map Tk.d = TD at *
        generalize rs.map rD = RD at *
        simp [sp]) ?_
      generalize s ++ [Cell.dead] = S at *
      generalize (dg (someL ts) rs.length j).map bD = B at *
      generalize (someL ts).map bD = K at *
      generalize ts.map Tk.d = TD at *
      generalize rs.map rD = RD at *
      cases g with
      | none => simp [oD, upd]
      | some v =>
        cases o with
        | none => simp [oD, upd]
        | some w =>
          by_cases c : v < w
          · simp [oD, upd, c]
          · simp [oD, upd, c]
    rw [List.map_cons, forL_next (δ1 := [some (.lst (ts.map Tk.d)), some (.lst (rs.map rD)), some (.lst ((someL ts).map bD)), some (oD o), some (.int (j : Int)), o5, o6, o7, o8]) rfl body, List.map_cons, List.foldl_cons, ← hg, ← List.append_assoc]
    exact f
theorem c_some9 {ts : List Tk} {δ : Mp.Env} {s : Sto} (hl : ts.length ≤ 3) (h : δ.length = 9) :
    lcL (tgN 8) cYes (dOp oIx (dVar 8) (dC (.int 0))) δ (ts.map Tk.d) [] s = .ok (.lst ((ts.map fun t => some t.nm).map bD)) s := by
  rw [lcL_map (fun d => match d with | .tup [n, _, _, _] => n | _ => .non) (ts.map Tk.d) [] (by rw [lim_eq]; simp; omega) (by
    intro d hd
    obtain ⟨t, ht, rfl⟩ := List.mem_map.mp hd
    refine ⟨_, rfl, ?_⟩
    simp [Tk.d, h])]
  simp
  intro t ht
  rfl
theorem pow_nb {n : Nat} (n4 : n ≤ 4) : (n : Int).natAbs < 2 ^ 64 := by
  have : (n : Int).natAbs = n := Int.natAbs_natCast n
  rw [this]
  exact Nat.lt_of_le_of_lt n4 (by decide)
theorem pow_q {n : Nat} (n4 : n ≤ 4) {i : Int} (h0 : 0 ≤ i) (h4 : i ≤ 4) : cPow (n : Int) i = true := by
  unfold cPow
  rw [decide_eq_true h0, decide_eq_true (by omega : i ≤ 1000000), decide_eq_true (pow_nb n4)]
  rfl
theorem pow_sm {N : Nat} (N2 : N ≤ 256) : small62 (N : Int) = true := by unfold small62; simp; omega
theorem pow_at {n m : Nat} (hm : m ≤ 4) : [D.int 1, .int (n : Int), .int ((n : Int) ^ 2), .int ((n : Int) ^ 3), .int ((n : Int) ^ 4)][m]? = some (.int ((n ^ m : Nat) : Int)) := by
  have : m = 0 ∨ m = 1 ∨ m = 2 ∨ m = 3 ∨ m = 4 := by omega
  rcases this with e | e | e | e | e <;> rw [e] <;> simp
theorem pow_i {a i : Int} {s : Sto} (h : cPow a i = true) : oPow (.int a) (.int i) s = .ok (.int (a ^ i.toNat)) s := by
  have e : oPow (.int a) (.int i) s = if cPow a i = true then .ok (.int (a ^ i.toNat)) s else .stuck := oInt_int
  rw [e, if_pos h]
theorem it_pow {T R K : List D} {n m N : Nat} {s : Sto} {a3 : Option D} (lK : K.length = n) (lR : R.length = m) (n4 : n ≤ 4) (hm : m ≤ 4) (hN : N = n ^ m) (N2 : N ≤ 256) : (itR1 (aCons (dOp oIx (dLst (aCons (dC (.int 1)) (aCons (dBi bLen (aCons (dVar 2) aNil)) (aCons (dOp oPow (dBi bLen (aCons (dVar 2) aNil)) (dC (.int 2))) (aCons (dOp oPow (dBi bLen (aCons (dVar 2) aNil)) (dC (.int 3))) (aCons (dOp oPow (dBi bLen (aCons (dVar 2) aNil)) (dC (.int 4))) aNil)))))) (dBi bLen (aCons (dVar 1) aNil))) aNil)) [some (.lst T), some (.lst R), some (.lst K), a3, none, none, none, none, none] s = .ok (intsD 0 N) s := by
  have kl : n ≤ 1000000 := by omega
  have rl : m ≤ 1000000 := by omega
  have q2 := pow_i (s := s) (pow_q n4 (i := 2) (by omega) (by omega))
  have q3 := pow_i (s := s) (pow_q n4 (i := 3) (by omega) (by omega))
  have q4 := pow_i (s := s) (pow_q n4 (i := 4) (by omega) (by omega))
  rw [show (2 : Int).toNat = 2 from rfl] at q2
  rw [show (3 : Int).toNat = 3 from rfl] at q3
  rw [show (4 : Int).toNat = 4 from rfl] at q4
  have sm := pow_sm N2
  have at_ := pow_at (n := n) hm
  rw [← hN] at at_
  have hl : (dLst (aCons (dC (.int 1)) (aCons (dBi bLen (aCons (dVar 2) aNil)) (aCons (dOp oPow (dBi bLen (aCons (dVar 2) aNil)) (dC (.int 2))) (aCons (dOp oPow (dBi bLen (aCons (dVar 2) aNil)) (dC (.int 3))) (aCons (dOp oPow (dBi bLen (aCons (dVar 2) aNil)) (dC (.int 4))) aNil)))))) [some (.lst T), some (.lst R), some (.lst K), a3, none, none, none, none, none] s = .ok (.lst [D.int 1, .int (n : Int), .int ((n : Int) ^ 2), .int ((n : Int) ^ 3), .int ((n : Int) ^ 4)]) s := by
    have bl : bLen [.lst K] s = .ok (.int (n : Int)) s := by simp [lK, kl, lim_eq]
    generalize oPow = OP at *
    generalize bLen = BL at *
    simp [bl, q2, q3, q4, lim_eq]
  have hm2 : (dBi bLen (aCons (dVar 1) aNil)) [some (.lst T), some (.lst R), some (.lst K), a3, none, none, none, none, none] s = .ok (.int (m : Int)) s := by simp [lR, rl, lim_eq]
  have hi : oIx (.lst [D.int 1, .int (n : Int), .int ((n : Int) ^ 2), .int ((n : Int) ^ 3), .int ((n : Int) ^ 4)]) (.int (m : Int)) s = .ok (.int (N : Int)) s := by
    simp [at_]
  generalize (dLst (aCons (dC (.int 1)) (aCons (dBi bLen (aCons (dVar 2) aNil)) (aCons (dOp oPow (dBi bLen (aCons (dVar 2) aNil)) (dC (.int 2))) (aCons (dOp oPow (dBi bLen (aCons (dVar 2) aNil)) (dC (.int 3))) (aCons (dOp oPow (dBi bLen (aCons (dVar 2) aNil)) (dC (.int 4))) aNil)))))) = F1 at *
  generalize (dBi bLen (aCons (dVar 1) aNil)) = F2 at *
  generalize [D.int 1, .int (n : Int), .int ((n : Int) ^ 2), .int ((n : Int) ^ 3), .int ((n : Int) ^ 4)] = L at *
  have e1 : (dOp oIx F1 F2) [some (.lst T), some (.lst R), some (.lst K), a3, none, none, none, none, none] s = .ok (.int (N : Int)) s := by rw [dOp_eq, hl, bind_ok, hm2, bind_ok, hi]
  rw [itR1_eq, aCons_eq, e1, bind_ok, aNil_eq, bind_ok, bind_ok]
  dsimp only
  rw [if_pos sm, Int.toNat_natCast]
theorem p_lawleast {ts : List Tk} (h : Ts ts) {rs : List Rd2} (hr : ∀ r ∈ rs, okB r.1) (hl : rs.length ≤ 4) {s : Sto} : ∃ r, f__law_least [.lst (ts.map Tk.d), .lst (rs.map rD)] s = .ok (oD (lsP ts rs)) (s ++ r) := by
  have hl3 := h.le
  obtain ⟨n, hn⟩ : ∃ n, n = (someL ts).length := ⟨_, rfl⟩
  have n1 : 1 ≤ n := by rw [hn]; simp [someL]
  have n4 : n ≤ 4 := by rw [hn]; simp [someL]; omega
  obtain ⟨N, hN⟩ : ∃ N : Nat, N = n ^ rs.length := ⟨_, rfl⟩
  have N2 : N ≤ 256 := by
    rw [hN]
    exact Nat.le_trans (Nat.pow_le_pow_left n4 _) (Nat.pow_le_pow_right (by omega : 0 < 4) hl)
  obtain ⟨r, p4, p5, p6, p7, f⟩ := least_in h hr hl (o8 := none) (List.range N) none s none none none none
  have ei : intsD 0 N = (List.range N).map fun (j : Nat) => D.int (j : Int) := by simp [intsD]
  have en := enum_eq h (rs := rs)
  unfold enumL at en
  rw [← hn, ← hN] at en
  rw [en, ← ei] at f
  have key : g__law_least [some (.lst (ts.map Tk.d)), some (.lst (rs.map rD)), none, none, none, none, none, none, none] s = .rt (oD (lsP ts rs)) (s ++ r) := by
    unfold g__law_least
    refine seq_step (δ' := [some (.lst (ts.map Tk.d)), some (.lst (rs.map rD)), some (.lst ((someL ts).map bD)), none, none, none, none, none, none]) (s' := s) (by
      have c1 := c_some9 (ts := ts) (δ := [some (.lst (ts.map Tk.d)), some (.lst (rs.map rD)), none, none, none, none, none, none, none]) (s := s) hl3 rfl
      have l1 : 0 + 1 ≤ lim := by rw [lim_eq]; omega
      simp only [sSet_eq, dOp_eq, dLst_eq, aCons_eq, dC_eq, aNil_eq, List.length_cons, List.length_nil, l1, if_true, dLc_eq, itAny_eq, dVar_eq, List.getElem?_cons_succ, List.getElem?_cons_zero, bind_ok, lqOf, lsOf, wipeE_cons, wipeE_nil, List.set, c1]
      have hl' : 1 + ts.length ≤ 1000000 := by omega
      simp [lim_eq, someL, bD, hl']) ?_
    refine seq_step (δ' := [some (.lst (ts.map Tk.d)), some (.lst (rs.map rD)), some (.lst ((someL ts).map bD)), some (oD none), none, none, none, none, none]) (s' := s) (by
      generalize (someL ts).map bD = K
      generalize ts.map Tk.d = TD
      generalize rs.map rD = RD
      simp [oD]) ?_
    have it := it_pow (T := ts.map Tk.d) (R := rs.map rD) (K := (someL ts).map bD) (s := s) (a3 := some (oD none)) (by rw [List.length_map, hn]) (List.length_map ..) n4 hl hN N2
    refine seq_step (by
      rw [sFor_eq, it]
      exact f) ?_
    rfl
  have fin : f__law_least [.lst (ts.map Tk.d), .lst (rs.map rD)] s = cut s.length (oD (lsP ts rs)) (s ++ r) := by
    show finO s.length (g__law_least [some (.lst (ts.map Tk.d)), some (.lst (rs.map rD)), none, none, none, none, none, none, none] s) = _
    rw [key]
    rfl
  obtain ⟨r', e⟩ := cut_some (s := s) (r := r) (d := oD (lsP ts rs)) rfl
  exact ⟨r', by rw [fin, e]⟩
end Rb
namespace Rb
open PySem PySem.Spec L2 Mp
theorem whole_i {i : Int} {s : Sto} : f__law_whole [.int i] s = .ok (.bl true) s := by
  have i1 : bIsO parT parA csT [.int i, .ty "int"] s = .ok (.bl true) s := iso_ty (t := "int") rfl kit_ii
  have i2 : bIsO parT parA csT [.int i, .ty "bool"] s = .ok (.bl false) s := iso_ty (t := "int") rfl kit_ib
  simp [f__law_whole, mkF, g__law_whole, i1, i2]
theorem dat_rD {n : Nat} : ∀ rs : List Rd2, datDs (n + 1) (rs.map rD) = true
  | [] => datDs_nil
  | r :: rs => by rw [List.map_cons, datDs_cons, dat_rD rs]; simp [rD]
theorem eq_rD : ∀ rs : List Rd2, eqDs (rs.map rD) (rs.map rD) = true
  | [] => rfl
  | r :: rs => by rw [List.map_cons, eqDs_cc, eq_rD rs]; simp [rD]
theorem eq_rs {rs : List Rd2} {s : Sto} {b : Bool} : oEqG b (.lst (rs.map rD)) (.lst (rs.map rD)) s = .ok (.bl (b != true)) s := by rw [oEq_ll (dat_rD rs) (dat_rD rs), eq_rD]
theorem c_some8 {ts : List Tk} {δ : Mp.Env} {s : Sto} (hl : ts.length ≤ 3) (h : δ.length = 8) :
    lcL (tgN 7) cYes (dOp oIx (dVar 7) (dC (.int 0))) δ (ts.map Tk.d) [] s = .ok (.lst ((ts.map Tk.nm).map D.str)) s := by
  rw [lcL_map (fun d => match d with | .tup [n, _, _, _] => n | _ => .non) (ts.map Tk.d) [] (by rw [lim_eq]; simp; omega) (by
    intro d hd
    obtain ⟨t, ht, rfl⟩ := List.mem_map.mp hd
    refine ⟨_, rfl, ?_⟩
    simp [Tk.d, h])]
  simp
  intro t ht
  rfl
theorem in_nm {n : List Nat} {ns : List (List Nat)} (h : n ∈ ns) {s : Sto} : oInA true (.str n) (.lst (ns.map D.str)) s = .ok (.bl false) s := by
  rw [oInA_lst]
  have a1 : (flatD (.str n) && (ns.map D.str).all flatD) = true := by
    rw [Bool.and_eq_true]
    refine ⟨rfl, ?_⟩
    rw [List.all_eq_true]
    intro d hd
    obtain ⟨z, _, rfl⟩ := List.mem_map.mp hd
    rfl
  have a2 : ((ns.map D.str).any fun y => eqF y (.str n)) = true := by
    rw [List.any_eq_true]
    exact ⟨.str n, List.mem_map_of_mem h, by show (n == n) = true; simp⟩
  rw [if_pos a1, a2]
  rfl
/-- nothing that was not asked for -/
theorem c_odd {ts : List Tk} (h : Ts ts) {bs : List Bt} (hb : bsOk ts bs) (hl : bs.length ≤ 100) {s : Sto} {o0 o2 o3 o4 o5 o6 o7 : Option D} :
    lcL (tgN 6) (tAndD (tst (dOp (oIs true) (dVar 6) (dC .non))) (tst (dOp (oInA true) (dVar 6) (dLc (itAny (dVar 1)) (tgN 7) cYes (dOp oIx (dVar 7) (dC (.int 0))) [7])))) (dVar 6) [o0, some (.lst (ts.map Tk.d)), o2, o3, o4, o5, o6, o7] (bs.map bD) [] s = .ok (.lst []) s := by
  have r := lcL_fil (s := s) (δ := [o0, some (.lst (ts.map Tk.d)), o2, o3, o4, o5, o6, o7]) (t := tgN 6) (c := tAndD (tst (dOp (oIs true) (dVar 6) (dC .non))) (tst (dOp (oInA true) (dVar 6) (dLc (itAny (dVar 1)) (tgN 7) cYes (dOp oIx (dVar 7) (dC (.int 0))) [7])))) (e := dVar 6) id (fun _ => false) (bs.map bD) [] (by rw [lim_eq]; simp; omega) (by
    intro d hd
    obtain ⟨b, hb', rfl⟩ := List.mem_map.mp hd
    refine ⟨[o0, some (.lst (ts.map Tk.d)), o2, o3, o4, o5, some (bD b), o7], rfl, ?_, fun q => by cases q⟩
    cases b with
    | none => simp [bD]
    | some n =>
      have c1 := c_some8 (ts := ts) (δ := [o0, some (.lst (ts.map Tk.d)), o2, o3, o4, o5, some (.str n), none]) (s := s) h.le rfl
      have c2 := in_nm (hb _ hb' n rfl) (s := s)
      generalize (ts.map Tk.nm).map D.str = L at *
      generalize ts.map Tk.d = TD at *
      simp [bD, c1, c2])
  have e : (bs.map bD).filter (fun _ => false) = [] := by simp
  rw [e] at r
  exact r
theorem kit_tt : kitB "tuple" "tuple" = some true := by decide +kernel
theorem p_good {ts : List Tk} (h : Ts ts) {s : Sto} (hs : Nt ts s) {rs : List Rd2} (hr : ∀ r ∈ rs, okB r.1) (hl : rs.length ≤ 4) : ∃ r, f__law_good [.loc 0, .lst (ts.map Tk.d), .lst (rs.map rD), oD (lsP ts rs)] s = .ok (.bl true) (s ++ r) := by
  obtain ⟨o, r, e1, e2, e3⟩ := p_least h hs hr hl
  obtain ⟨_, k2⟩ := lsP_ok h (rs := rs)
  have rl : rs.length ≤ 1000000 := by omega
  have stp1 : ∀ g : DS, ∀ O : Out, g [some (.loc 0), some (.lst (ts.map Tk.d)), some (.lst (rs.map rD)), some (oD (lsP ts rs)), some (.lst (rs.map rD)), some (oW o), none, none] (s ++ r) = O →
      sSeq (sSet 4 (dBi bList (aCons (dVar 2) aNil))) (sSeq (sSet 5 (dCall f_least_tickets (aCons (dVar 0) (aCons (dVar 4) aNil)))) g) [some (.loc 0), some (.lst (ts.map Tk.d)), some (.lst (rs.map rD)), some (oD (lsP ts rs)), none, none, none, none] s = O := by
    intro g O hg
    refine seq_step (δ' := [some (.loc 0), some (.lst (ts.map Tk.d)), some (.lst (rs.map rD)), some (oD (lsP ts rs)), some (.lst (rs.map rD)), none, none, none]) (s' := s) (by
      generalize rs.map rD = RD
      generalize ts.map Tk.d = TD
      simp) ?_
    refine seq_step (δ' := [some (.loc 0), some (.lst (ts.map Tk.d)), some (.lst (rs.map rD)), some (oD (lsP ts rs)), some (.lst (rs.map rD)), some (oW o), none, none]) (s' := s ++ r) (by
      generalize s ++ r = S at *
      generalize rs.map rD = RD at *
      generalize ts.map Tk.d = TD at *
      simp [e1]) hg
  have q1 := eq_rs (rs := rs) (s := s ++ r) (b := true)
  have q2 := eq_rs (rs := rs) (s := s ++ r) (b := false)
  have fin : ∀ R, g__law_good [some (.loc 0), some (.lst (ts.map Tk.d)), some (.lst (rs.map rD)), some (oD (lsP ts rs)), none, none, none, none] s = .rt (.bl true) (s ++ R) → ∃ r, f__law_good [.loc 0, .lst (ts.map Tk.d), .lst (rs.map rD), oD (lsP ts rs)] s = .ok (.bl true) (s ++ r) := by
    intro R key
    have f : f__law_good [.loc 0, .lst (ts.map Tk.d), .lst (rs.map rD), oD (lsP ts rs)] s = cut s.length (.bl true) (s ++ R) := by
      show finO s.length (g__law_good [some (.loc 0), some (.lst (ts.map Tk.d)), some (.lst (rs.map rD)), some (oD (lsP ts rs)), none, none, none, none] s) = _
      rw [key]
      rfl
    obtain ⟨r', e⟩ := cut_some (s := s) (r := R) (d := .bl true) rfl
    exact ⟨r', by rw [f, e]⟩
  cases o with
  | none =>
    have lp : lsP ts rs = none := by
      unfold lsP
      rw [← e2]
      rfl
    refine fin r ?_
    unfold g__law_good
    refine stp1 _ _ ?_
    rw [lp]
    refine seq_ret ?_
    generalize s ++ r = S at *
    generalize rs.map rD = RD at *
    generalize ts.map Tk.d = TD at *
    simp [oW, oD, q1, q2]
  | some e =>
    have e2 : some (stp e) = bstA none (lstA ts A0 rs) := e2
    obtain ⟨b1, b2, b3⟩ := k2 _ e2.symm
    have b1 : bsOk ts e.2.2.2 := b1
    have b2 : e.2.2.2.length = rs.length := b2
    have b3 : go ts 0 none (rs.zip e.2.2.2) = some e.2.1 := b3
    have lp : lsP ts rs = some e.2.1 := by
      unfold lsP
      rw [← e2]
      rfl
    obtain ⟨c1, c2, c3⟩ := e3 e rfl
    obtain ⟨i, hi⟩ : ∃ i, i = e.2.2.1 := ⟨_, rfl⟩
    obtain ⟨p, hp⟩ : ∃ p, p = e.2.1 := ⟨_, rfl⟩
    obtain ⟨bs, hbs⟩ : ∃ bs, bs = e.2.2.2 := ⟨_, rfl⟩
    have we : oW (some e) = .tup [.int p, .loc i] := by rw [hp, hi]; rfl
    rw [← hbs] at b1 b2 b3 c1
    rw [← hp] at b3 lp
    rw [← hi] at c1 c3
    have ci : (s ++ r).set i = fun c => s ++ r.set (i - s.length) c := by
      funext c
      exact List.set_append_right _ _ c3
    have sp := p_spentC h c1 (okL_of (ts := ts) (rs := rs) hr b1)
    rw [b3] at sp
    have i1 : bIsO parT parA csT [.tup [.int p, .loc i], .ty "tuple"] (s ++ r) = .ok (.bl true) (s ++ r) := iso_ty (t := "tuple") rfl kit_tt
    have i2 : bIsO parT parA csT [.loc i, .ty "list"] (s ++ r) = .ok (.bl true) (s ++ r) := iso_ty (t := "list") (by unfold tyOf; dsimp only; rw [c1]) kit_ll
    have w := whole_i (i := p) (s := s ++ r)
    have bl : (bs.map bD).length = rs.length := by rw [List.length_map, b2]
    have od := c_odd h b1 (by omega) (s := (s ++ r).set i .dead) (o0 := some (.loc 0)) (o2 := some (.lst (rs.map rD))) (o3 := some (.int p)) (o4 := some (.lst (rs.map rD))) (o5 := some (.tup [.int p, .loc i])) (o6 := none) (o7 := none)
    have hil := (List.getElem?_eq_some_iff.mp c1).1
    have lR : (rs.map rD).length = rs.length := List.length_map ..
    refine fin (((r.set (i - s.length) (.lst (bs.map bD).reverse))).set (i - s.length) (.lst ((bs.map bD).reverse ++ [.str [109, 111, 114, 101]]))) ?_
    unfold g__law_good
    refine stp1 _ _ ?_
    rw [lp, we]
    have s2 : s ++ ((r.set (i - s.length) (.lst (bs.map bD).reverse))).set (i - s.length) (.lst ((bs.map bD).reverse ++ [.str [109, 111, 114, 101]])) = ((s ++ r).set i (.lst (bs.map bD).reverse)).set i (.lst ((bs.map bD).reverse ++ [.str [109, 111, 114, 101]])) := by
      rw [List.set_append_right _ _ c3, List.set_append_right _ _ c3]
    rw [s2]
    have back : bkS i (bs.map bD) ((s ++ r).set i .dead) = some (s ++ r) := by
      unfold bkS
      rw [List.getElem?_set_self hil]
      dsimp only
      congr 1
      rw [List.set_set]
      refine List.ext_getElem? fun j => ?_
      rw [List.getElem?_set]
      split
      · rename_i q
        subst q
        first | rw [if_pos hil, c1] | rw [c1]
      · rfl
    have sp : f__law_spent [.lst (ts.map Tk.d), .lst (rs.map rD), .loc i] (s ++ r) = .ok (.int p) (s ++ r) := sp
    generalize (bs.map bD) = BD at *
    generalize s ++ r = S at *
    generalize rs.map rD = RD at *
    generalize ts.map Tk.d = TD at *
    have δ0 : [some (.loc 0), some (.lst TD), some (.lst RD), some (.int p), some (.lst RD), some (.tup [.int p, .loc i]), none, none] = [some (.loc 0), some (.lst TD), some (.lst RD), some (.int p), some (.lst RD), some (.tup [.int p, .loc i]), none, (none : Option D)] := rfl
    refine seq_step (δ' := [some (.loc 0), some (.lst TD), some (.lst RD), some (.int p), some (.lst RD), some (.tup [.int p, .loc i]), none, none]) (s' := S) (by
      simp [oD, q1]) ?_
    refine seq_step (δ' := [some (.loc 0), some (.lst TD), some (.lst RD), some (.int p), some (.lst RD), some (.tup [.int p, .loc i]), none, none]) (s' := S) (by
      simp [oD, i1, i2, lim_eq]) ?_
    refine seq_step (δ' := [some (.loc 0), some (.lst TD), some (.lst RD), some (.int p), some (.lst RD), some (.tup [.int p, .loc i]), none, none]) (s' := S) (by
      have l1 : bLen [.loc i] S = .ok (.int (rs.length : Int)) S := by
        unfold bLen
        simp [c1, bl, lim_eq, rl]
      have l2 : bLen [.lst RD] S = .ok (.int (rs.length : Int)) S := by rw [bLen_lst, lR]
      generalize bLen = BL at *
      simp [oD, w, l1, l2]) ?_
    refine seq_step (δ' := [some (.loc 0), some (.lst TD), some (.lst RD), some (.int p), some (.lst RD), some (.tup [.int p, .loc i]), none, none]) (s' := S) (by
      have q : (dLcA (dOp oIx (dVar 5) (dC (.int 1))) (tgN 6) (tAndD (tst (dOp (oIs true) (dVar 6) (dC .non))) (tst (dOp (oInA true) (dVar 6) (dLc (itAny (dVar 1)) (tgN 7) cYes (dOp oIx (dVar 7) (dC (.int 0))) [7])))) (dVar 6) [6]) [some (.loc 0), some (.lst TD), some (.lst RD), some (.int p), some (.lst RD), some (.tup [.int p, .loc i]), none, none] S = .ok (.lst []) S := by
        rw [dLcA_eq]
        have x : (dOp oIx (dVar 5) (dC (.int 1))) [some (.loc 0), some (.lst TD), some (.lst RD), some (.int p), some (.lst RD), some (.tup [.int p, .loc i]), none, none] S = .ok (.loc i) S := by simp
        rw [x, bind_ok, itCel_loc, c1]
        dsimp only
        rw [wipeE_cons, wipeE_nil]
        show backO _ (lcL _ _ _ [some (.loc 0), some (.lst TD), some (.lst RD), some (.int p), some (.lst RD), some (.tup [.int p, .loc i]), none, none] BD [] _) = _
        rw [od]
        simp [backO, Res.back, back]
      generalize (dLcA (dOp oIx (dVar 5) (dC (.int 1))) (tgN 6) (tAndD (tst (dOp (oIs true) (dVar 6) (dC .non))) (tst (dOp (oInA true) (dVar 6) (dLc (itAny (dVar 1)) (tgN 7) cYes (dOp oIx (dVar 7) (dC (.int 0))) [7])))) (dVar 6) [6]) = LC at *
      have qe : oEqG true (.lst []) (.lst []) S = .ok (.bl false) S := by rw [oEq_ll (by simp) (by simp)]; rfl
      simp [q, qe, lim_eq]) ?_
    refine seq_step (δ' := [some (.loc 0), some (.lst TD), some (.lst RD), some (.int p), some (.lst RD), some (.tup [.int p, .loc i]), none, none]) (s' := S) (by
      simp [oD, sp]) ?_
    refine seq_step (δ' := [some (.loc 0), some (.lst TD), some (.lst RD), some (.int p), some (.lst RD), some (.tup [.int p, .loc i]), none, none]) (s' := S.set i (.lst BD.reverse)) (by
      have mr : mReverse (.loc i) [] S = .ok .non (S.set i (.lst BD.reverse)) := by
        unfold mReverse
        simp only [c1]
      generalize mReverse = MR at *
      simp [mr, c1]) ?_
    refine seq_step (δ' := [some (.loc 0), some (.lst TD), some (.lst RD), some (.int p), some (.lst RD), some (.tup [.int p, .loc i]), none, none]) (s' := (S.set i (.lst BD.reverse)).set i (.lst (BD.reverse ++ [.str [109, 111, 114, 101]]))) (by
      have ma : mAppend (.loc i) [.str [109, 111, 114, 101]] (S.set i (.lst BD.reverse)) = .ok .non ((S.set i (.lst BD.reverse)).set i (.lst (BD.reverse ++ [.str [109, 111, 114, 101]]))) := by
        rw [mAppend_eq, List.getElem?_set_self hil]
        have : BD.length < 1000000 := by rw [bl]; omega
        simp [lim_eq, this]
      have gs := List.getElem?_set_self (a := Cell.lst BD.reverse) hil
      generalize mAppend = MA at *
      generalize S.set i (.lst BD.reverse) = S3 at *
      simp [ma, gs]) ?_
    rfl
end Rb
namespace Rb
open PySem PySem.Spec L2 Mp
abbrev Sb (s : Sto) : Prop := s.all (Cell.below s.length) = true
theorem cut_app {s : Sto} {d : D} {c : Cell} (hs : Sb s) (hd : below s.length d = true) : cut s.length d (s ++ [c]) = .ok d s := by
  unfold Mp.cut
  have e : (s ++ [c]).take s.length = s := by simp
  rw [if_neg (by simp), if_pos (by rw [e, hd, hs]; simp), e]
theorem frz_step {δ : Mp.Env} {s : Sto} {i : Nat} {xs : List D} (h : δ[i]? = some (some (.loc s.length))) : sFrz i δ (s ++ [.lst xs]) = .nx (δ.set i (some (.lst xs))) (s ++ [.dead]) := by
  unfold sFrz
  rw [h]
  simp [frzD]
theorem below_rD {n : Nat} : ∀ rs : List Rd2, belows n (rs.map rD) = true
  | [] => rfl
  | r :: rs => by
    rw [List.map_cons]
    show (below n (rD r) && belows n (rs.map rD)) = true
    rw [below_rD rs]
    rfl
theorem below_bD {n : Nat} : ∀ bs : List Bt, belows n (bs.map bD) = true
  | [] => rfl
  | b :: bs => by
    rw [List.map_cons]
    show (below n (bD b) && belows n (bs.map bD)) = true
    rw [below_bD bs]
    cases b <;> rfl
/-! ### rides -/
theorem rd_loop {ns : List Int} {k M : Int} {s : Sto} (hk : 0 ≤ k ∧ k < 1000) : ∀ (js : List Int) (acc : List Rd2) (mo : Int) (o5 o6 o7 : Option D), (∀ j ∈ js, 0 ≤ j ∧ j < 10) → (∀ r ∈ acc, okB r.1) → acc.length + js.length ≤ 20 →
    ∃ (rs : List Rd2) (p4 p5 p6 p7 : Option D), rs.length = acc.length + js.length ∧ (∀ r ∈ rs, okB r.1) ∧ forL (tgN 5) g__law_rides_b1 (js.map D.int) [some (.scr ns), some (.int k), some (.int M), some (.loc s.length), some (.int mo), o5, o6, o7] (s ++ [.lst (acc.map rD)]) =
      .nx [some (.scr ns), some (.int k), some (.int M), some (.loc s.length), p4, p5, p6, p7] (s ++ [.lst (rs.map rD)])
  | [], acc, mo, o5, o6, o7, _, ha, _ => ⟨acc, _, _, _, _, by simp, ha, rfl⟩
  | j :: js, acc, mo, o5, o6, o7, hj, ha, hl => by
    rw [List.length_cons] at hl
    have hj0 := hj j List.mem_cons_self
    obtain ⟨x, x0, x1, e1⟩ := p_draw (ns := ns) (k := k + 1 + j) (s := s ++ [.lst (acc.map rD)]) (by omega)
    obtain ⟨m1, h1, v, rfl, hv⟩ := atI_ex (xs := [D.int 1, D.int 30, D.int 200, D.int 700]) (i := x / 1024 % 4) (Q := fun d => ∃ v, d = .int v ∧ 0 < v) (by omega) (by simp; omega) (by simp)
    obtain ⟨m2, h2, w, rfl, hw⟩ := atI_ex (xs := [D.int 1, D.int 2, D.int 4, D.int 8, D.int 16, D.int 32]) (i := x / 4096 % 6) (Q := fun d => ∃ v, d = .int v ∧ okB v) (by omega) (by simp; omega) (by simp [okB])
    obtain ⟨m3, h3, b, rfl, hb⟩ := atI_ex (xs := [D.int (1 + x / 4096 % 63), D.int w, D.int 3]) (i := x / 64 % 3) (Q := fun d => ∃ v, d = .int v ∧ okB v) (by omega) (by simp; omega) (by
      intro d hd
      simp only [List.mem_cons, List.not_mem_nil, or_false] at hd
      rcases hd with rfl | rfl | rfl
      · exact ⟨_, rfl, by unfold okB; omega⟩
      · exact ⟨_, rfl, hw⟩
      · exact ⟨_, rfl, by unfold okB; omega⟩)
    obtain ⟨rs, p4, p5, p6, p7, g0, g1, g2⟩ := rd_loop (ns := ns) (M := M) (s := s) hk js (acc ++ [(b, mo + x % v)]) (mo + x % v) (some (.int j)) (some (.int x)) (some (.int b)) (fun y hy => hj y (List.mem_cons_of_mem _ hy)) (fun r hr => by
      rcases List.mem_append.mp hr with hr | hr
      · exact ha r hr
      · rw [List.mem_singleton.mp hr]; exact hb) (by simp; omega)
    refine ⟨rs, p4, p5, p6, p7, by rw [g0, List.length_append, List.length_cons]; simp; omega, g1, ?_⟩
    have hl2 : acc.length < 1000000 := by omega
    rw [List.map_cons, forL_next (δ1 := [some (.scr ns), some (.int k), some (.int M), some (.loc s.length), some (.int mo), some (.int j), o6, o7]) (δ2 := [some (.scr ns), some (.int k), some (.int M), some (.loc s.length), some (.int (mo + x % v)), some (.int j), some (.int x), some (.int b)]) (s2 := s ++ [.lst ((acc ++ [(b, mo + x % v)]).map rD)]) rfl (by
      simp [g__law_rides_b1, e1, h1, h2, h3, hv, lim_eq, hl2, rD])]
    exact g2
theorem p_rides {ns : List Int} {M : Int} {s : Sto} (hs : Sb s) (hM : 0 ≤ M ∧ M < 10) : ∃ rs : List Rd2, rs.length ≤ M.toNat ∧ (∀ r ∈ rs, okB r.1) ∧ f__law_rides [.scr ns, .int 10, .int M] s = .ok (.lst (rs.map rD)) s := by
  obtain ⟨x, x0, x1, e1⟩ := p_draw (ns := ns) (k := 10) (s := s ++ [.lst []]) (by omega)
  have ei : intsD 0 M.toNat = ((List.range M.toNat).map fun (i : Nat) => (0 + (i : Int))).map D.int := by simp [intsD]
  obtain ⟨rs, p4, p5, p6, p7, g0, g1, g2⟩ := rd_loop (ns := ns) (k := 10) (M := M) (s := s) (by omega) ((List.range M.toNat).map fun (i : Nat) => (0 + (i : Int))) [] (x % 14000000) none none none (by
    intro j hj
    obtain ⟨i, hi, rfl⟩ := List.mem_map.mp hj
    have := List.mem_range.mp hi
    omega) (fun r hr => nomatch hr) (by simp; omega)
  rw [← ei] at g2
  have sm : small62 M = true := by unfold small62; simp; omega
  refine ⟨rs, by rw [g0]; simp, g1, ?_⟩
  have key : g__law_rides [some (.scr ns), some (.int 10), some (.int M), none, none, none, none, none] s = .rt (.lst (rs.map rD)) (s ++ [.dead]) := by
    unfold g__law_rides
    refine seq_step (δ' := [some (.scr ns), some (.int 10), some (.int M), some (.loc s.length), none, none, none, none]) (s' := s ++ [.lst []]) (by simp [lim_eq]) ?_
    refine seq_step (δ' := [some (.scr ns), some (.int 10), some (.int M), some (.loc s.length), some (.int (x % 14000000)), none, none, none]) (s' := s ++ [.lst []]) (by simp [e1]) ?_
    refine seq_step (δ' := [some (.scr ns), some (.int 10), some (.int M), some (.loc s.length), p4, p5, p6, p7]) (s' := s ++ [.lst (rs.map rD)]) (by
      simp only [sFor_eq, itR1_eq, aCons_eq, dVar_eq, List.getElem?_cons_succ, List.getElem?_cons_zero, bind_ok, aNil_eq, sm, if_true, out_ok]
      exact g2) ?_
    refine seq_step (frz_step rfl) ?_
    simp
  show finO s.length (g__law_rides [some (.scr ns), some (.int 10), some (.int M), none, none, none, none, none] s) = _
  rw [key, fin_rt]
  exact cut_app hs (below_rD rs)
theorem at_last {xs : List D} {d : D} : atI (xs ++ [d]) (-1) = some d := by
  unfold atI ixN
  have e : ((-1 : Int) + ((xs.length : Int) + 1)).toNat = xs.length := by omega
  have e' : (1 : Int) ≤ (xs.length : Int) + 1 := by omega
  simp [e, e']
theorem okS_nm' {z : List Nat} (h : NmOk z) : okS z = true := by
  unfold okS
  rw [List.all_eq_true]
  intro c hc
  have := h.2.2 c hc
  simp
  omega
theorem dat_ints {n : Nat} : ∀ xs : List Int, datDs n (xs.map D.int) = true
  | [] => datDs_nil
  | x :: xs => by rw [List.map_cons, datDs_cons, dat_ints xs, datD_int]; rfl
theorem dat_Td {n : Nat} : ∀ {ts : List Tk}, (∀ t ∈ ts, t.ok) → datDs (n + 2) (ts.map Tk.d) = true
  | [], _ => datDs_nil
  | t :: ts, h => by
    rw [List.map_cons, datDs_cons, dat_Td (fun u hu => h u (List.mem_cons_of_mem _ hu))]
    have := okS_nm' (h t List.mem_cons_self).1
    unfold Tk.d
    rw [datD_tup, datDs_cons, datDs_cons, datDs_cons, datDs_cons, datD_str, this, datD_int, datD_int, datD_lst, dat_ints, datDs_nil]
    rfl
theorem ne_Td {ts : List Tk} (h : ∀ t ∈ ts, t.ok) {s : Sto} : oEqG true (.lst (ts.map Tk.d)) (.lst []) s = .ok (.bl (!ts.isEmpty)) s := by
  rw [oEq_ll (dat_Td h) (by simp)]
  cases ts <;> rfl
theorem ed_loop {ns : List Int} {ts : List Tk} {rs0 : D} {s : Sto} (hok : ∀ t ∈ ts, t.ok) (hl3 : ts.length ≤ 3) : ∀ (rs : List Rd2) (i : Nat) (acc : List Rd2) (la : Rd2) (o4 o5 o6 o7 o8 : Option D), (∀ r ∈ rs, okB r.1) → (∀ r ∈ acc ++ [la], okB r.1) → acc.length + rs.length ≤ 20 → i + rs.length ≤ 20 →
    ∃ (out : List Rd2) (p4 p5 p6 p7 p8 : Option D), out.length = acc.length + 1 + rs.length ∧ (∀ r ∈ out, okB r.1) ∧ forL (tgT [tgN 4, tgN 5]) g__law_edged_b1 (enD i (rs.map rD)) [some (.scr ns), some (.lst (ts.map Tk.d)), some rs0, some (.loc s.length), o4, o5, o6, o7, o8] (s ++ [.lst ((acc ++ [la]).map rD)]) =
      .nx [some (.scr ns), some (.lst (ts.map Tk.d)), some rs0, some (.loc s.length), p4, p5, p6, p7, p8] (s ++ [.lst (out.map rD)])
  | [], i, acc, la, o4, o5, o6, o7, o8, _, ha, _, _ => ⟨acc ++ [la], _, _, _, _, _, by simp, ha, rfl⟩
  | (b, m) :: rs, i, acc, (lb, lm), o4, o5, o6, o7, o8, hr, ha, hl, hi => by
    rw [List.length_cons] at hl hi
    obtain ⟨x, x0, x1, e1⟩ := p_draw (ns := ns) (k := 90 + i) (s := s ++ [.lst ((acc ++ [(lb, lm)]).map rD)]) (by omega)
    have el : ((acc ++ [(lb, lm)]).map rD) = acc.map rD ++ [.tup [.int lb, .int lm]] := by simp [rD]
    have al := at_last (xs := acc.map rD) (d := .tup [.int lb, .int lm])
    have hl2 : acc.length + 1 < 1000000 := by omega
    have hl3' : ts.length ≤ 1000000 := by omega
    have ne := ne_Td hok (s := s ++ [.lst ((acc ++ [(lb, lm)]).map rD)])
    have step : ∃ (v : Int) (p8 : Option D), g__law_edged_b1 [some (.scr ns), some (.lst (ts.map Tk.d)), some rs0, some (.loc s.length), some (.int i), some (rD (b, m)), o6, o7, o8] (s ++ [.lst ((acc ++ [(lb, lm)]).map rD)]) =
        .nx [some (.scr ns), some (.lst (ts.map Tk.d)), some rs0, some (.loc s.length), some (.int i), some (rD (b, m)), some (.int x), some (.int v), p8] (s ++ [.lst (((acc ++ [(lb, lm)]) ++ [(b, if lm > v then lm else v)]).map rD)]) := by
      by_cases q : x / 32 % 2 = 1
      · by_cases hts : ts = []
        · refine ⟨m, o8, ?_⟩
          have ne' : oEqG true (.lst (ts.map Tk.d)) (.lst []) (s ++ [.lst ((acc ++ [(lb, lm)]).map rD)]) = .ok (.bl false) (s ++ [.lst ((acc ++ [(lb, lm)]).map rD)]) := by rw [ne, hts]; rfl
          rw [el] at e1 ne' ⊢
          generalize ts.map Tk.d = TD at *
          simp [g__law_edged_b1, e1, ne', lim_eq, al, rD, q, hl2]
        · have hp : 0 < ts.length := List.length_pos_iff.mpr hts
          obtain ⟨d, h1, t, rfl⟩ := atI_ex (xs := ts.map Tk.d) (i := x % (ts.length : Int)) (Q := fun d => ∃ t : Tk, d = t.d) (Int.emod_nonneg _ (by omega)) (by rw [List.length_map]; exact Int.emod_lt_of_pos _ (by omega)) (by
            intro d hd
            obtain ⟨t, _, rfl⟩ := List.mem_map.mp hd
            exact ⟨t, rfl⟩)
          have hp' : (0 : Int) < ts.length := by omega
          refine ⟨lm + t.la + x / 8 % 3 - 1, some (.int t.la), ?_⟩
          have ne' : oEqG true (.lst (ts.map Tk.d)) (.lst []) (s ++ [.lst ((acc ++ [(lb, lm)]).map rD)]) = .ok (.bl true) (s ++ [.lst ((acc ++ [(lb, lm)]).map rD)]) := by
            rw [ne]
            cases ts with
            | nil => exact absurd rfl hts
            | cons t ts => rfl
          rw [el] at e1 ne' ⊢
          simp only [Tk.d] at h1
          have lT : (ts.map Tk.d).length = ts.length := List.length_map ..
          generalize ts.map Tk.d = TD at *
          simp [g__law_edged_b1, e1, ne', h1, lT, hp, hp', lim_eq, al, rD, q, hl2]
      · refine ⟨m, o8, ?_⟩
        rw [el] at e1 ⊢
        have q' : (x / 32 % 2 == 1) = false := by simpa using q
        simp [g__law_edged_b1, e1, lim_eq, al, rD, q', hl2]
    obtain ⟨v, p8', hstep⟩ := step
    obtain ⟨out, p4, p5, p6, p7, p8, g0, g1, g2⟩ := ed_loop (ns := ns) (rs0 := rs0) (s := s) hok hl3 rs (i + 1) (acc ++ [(lb, lm)]) (b, if lm > v then lm else v) (some (.int i)) (some (rD (b, m))) (some (.int x)) (some (.int v)) p8' (fun y hy => hr y (List.mem_cons_of_mem _ hy)) (fun r hr' => by
      rcases List.mem_append.mp hr' with hr' | hr'
      · exact ha r hr'
      · rw [List.mem_singleton.mp hr']; show okB b; exact hr (b, m) List.mem_cons_self) (by simp; omega) (by omega)
    refine ⟨out, p4, p5, p6, p7, p8, by rw [g0, List.length_append, List.length_cons]; simp; omega, g1, ?_⟩
    rw [List.map_cons]
    show forL _ _ (.tup [.int (i : Int), rD (b, m)] :: enD (i + 1) (rs.map rD)) _ _ = _
    rw [forL_next (δ1 := [some (.scr ns), some (.lst (ts.map Tk.d)), some rs0, some (.loc s.length), some (.int i), some (rD (b, m)), o6, o7, o8]) rfl hstep]
    exact g2
end Rb
namespace Rb
open PySem PySem.Spec L2 Mp
theorem oSl_l {xs : List D} {lo hi : Option Int} {s : Sto} : oSl (.lst xs) lo hi s = .ok (.lst (cutL xs lo hi)) s := rfl
theorem p_edged {ns : List Int} {ts : List Tk} (hok : ∀ t ∈ ts, t.ok) (hl3 : ts.length ≤ 3) {rs : List Rd2} {s : Sto} (hs : Sb s) (hr : ∀ r ∈ rs, okB r.1) (hl : rs.length ≤ 10) :
    ∃ out : List Rd2, out.length = rs.length ∧ (∀ r ∈ out, okB r.1) ∧ f__law_edged [.scr ns, .lst (ts.map Tk.d), .lst (rs.map rD)] s = .ok (.lst (out.map rD)) s := by
  have fin : ∀ out : List Rd2, (∃ δ', δ'[3]? = some (some (.loc s.length)) ∧ (sFor (itEnum (aCons (dSl (dVar 2) (pSome (dC (.int 1))) pNone) aNil)) (tgT [(tgN 4), (tgN 5)]) g__law_edged_b1) [some (.scr ns), some (.lst (ts.map Tk.d)), some (.lst (rs.map rD)), some (.loc s.length), none, none, none, none, none] (s ++ [.lst ((rs.take 1).map rD)]) = .nx δ' (s ++ [.lst (out.map rD)])) →
      f__law_edged [.scr ns, .lst (ts.map Tk.d), .lst (rs.map rD)] s = .ok (.lst (out.map rD)) s := by
    intro out ⟨δ', h3, he⟩
    have key : g__law_edged [some (.scr ns), some (.lst (ts.map Tk.d)), some (.lst (rs.map rD)), none, none, none, none, none, none] s = .rt (.lst (out.map rD)) (s ++ [.dead]) := by
      unfold g__law_edged
      refine seq_step (δ' := [some (.scr ns), some (.lst (ts.map Tk.d)), some (.lst (rs.map rD)), some (.loc s.length), none, none, none, none, none]) (s' := s ++ [.lst ((rs.take 1).map rD)]) ?_ ?_
      · have c := cut_take (xs := rs.map rD) (i := min 1 rs.length) (by rw [List.length_map]; omega)
        cases rs with
        | nil => rfl
        | cons r rs =>
          simp [cut_take]
          rfl
      refine seq_step he ?_
      have f := frz_step (s := s) (δ := δ') (i := 3) (xs := out.map rD) h3
      refine seq_step f ?_
      have l3 : 3 < δ'.length := by
        rcases Nat.lt_or_ge 3 δ'.length with q | q
        · exact q
        · rw [List.getElem?_eq_none q] at h3; cases h3
      simp [l3]
    show finO s.length (g__law_edged [some (.scr ns), some (.lst (ts.map Tk.d)), some (.lst (rs.map rD)), none, none, none, none, none, none] s) = _
    rw [key, fin_rt]
    exact cut_app hs (below_rD out)
  cases rs with
  | nil =>
    refine ⟨[], by simp, (fun r hr => by cases hr), fin [] ⟨[some (.scr ns), some (.lst (ts.map Tk.d)), some (.lst (([] : List Rd2).map rD)), some (.loc s.length), none, none, none, none, none], rfl, ?_⟩⟩
    simp [oSl_l]
    simp [cutL, enD]
  | cons r rs =>
    rw [List.length_cons] at hl
    obtain ⟨out, p4, p5, p6, p7, p8, g0, g1, g2⟩ := ed_loop (ns := ns) (rs0 := .lst ((r :: rs).map rD)) (s := s) hok hl3 rs 0 [] r none none none none none (fun y hy => hr y (List.mem_cons_of_mem _ hy)) (fun y hy => by
      rw [List.nil_append] at hy
      rw [List.mem_singleton.mp hy]
      exact hr r List.mem_cons_self) (by simp; omega) (by omega)
    refine ⟨out, by rw [g0]; simp; omega, g1, fin out ⟨[some (.scr ns), some (.lst (ts.map Tk.d)), some (.lst ((r :: rs).map rD)), some (.loc s.length), p4, p5, p6, p7, p8], rfl, ?_⟩⟩
    have c := cut_drop (xs := (r :: rs).map rD) (i := 1) (by simp)
    have c' : cutL ((r :: rs).map rD) (some 1) none = rs.map rD := c
    simp only [sFor_eq, itEnum_eq, aCons_eq, dSl_eq, dVar_eq, List.getElem?_cons_succ, List.getElem?_cons_zero, bind_ok]
    simp [oSl_l]
    rw [← List.map_cons, c']
    simp
    exact g2
end Rb
namespace Rb
open PySem PySem.Spec L2 Mp
theorem p_crossed {ns : List Int} : ∃ (ts : List Tk) (rs : List Rd2), ts.length = 2 ∧ (ts.map Tk.nm).Nodup ∧ (∀ t ∈ ts, t.ok) ∧ rs.length = 4 ∧ (∀ r ∈ rs, okB r.1) ∧ f__law_crossed [.scr ns] [] = .ok (.tup [.lst (ts.map Tk.d), .lst (rs.map rD)]) [] := by
  obtain ⟨x, x0, x1, e1⟩ := p_draw (ns := ns) (k := 70) (s := []) (by omega)
  obtain ⟨zs, z1, z2, z3, e2⟩ := p_names (ns := ns) (k := 71) (M := 2) (many := 2) (s := []) (by omega) (by omega) rfl
  obtain ⟨y, y0, y1, e3⟩ := p_draw (ns := ns) (k := 72) (s := []) (by omega)
  obtain ⟨v, v0, v1, e4⟩ := p_draw (ns := ns) (k := 73) (s := []) (by omega)
  obtain ⟨a, c, rfl⟩ : ∃ a c, zs = [a, c] := by
    match zs, z1 with
    | [a, c], _ => exact ⟨a, c, rfl⟩
  have ka := z3 a (by simp)
  have kc := z3 c (by simp)
  have hne : a ≠ c := by
    intro e
    subst e
    simp at z2
  obtain ⟨la, hla⟩ : ∃ la : Int, la = 20 + x / 2 % 200 := ⟨_, rfl⟩
  obtain ⟨pr, hpr⟩ : ∃ pr : Int, pr = 10 + x / 512 % 21 := ⟨_, rfl⟩
  obtain ⟨pr2, hpr2⟩ : ∃ pr2 : Int, pr2 = 1 + x / 16384 % 5 := ⟨_, rfl⟩
  obtain ⟨d1, h1, b, hb, rfl⟩ := atI_ex (xs := [D.int 63, .int 1]) (i := x % 2) (Q := fun d => ∃ b : Int, okB b ∧ d = .int b) (by omega) (by show x % 2 < 2; omega) (by
    intro d hd
    rcases List.mem_cons.mp hd with rfl | hd
    · exact ⟨63, by unfold okB; omega, rfl⟩
    · rw [List.mem_singleton] at hd
      exact ⟨1, by unfold okB; omega, hd⟩)
  obtain ⟨d2, h2, z, hz, rfl⟩ := atI_ex (xs := [D.int 63, .int 3, .int 7, .int 62]) (i := x / 131072 % 4) (Q := fun d => ∃ b : Int, okB b ∧ d = .int b) (by omega) (by show x / 131072 % 4 < 4; omega) (by
    intro d hd
    rcases List.mem_cons.mp hd with rfl | hd
    · exact ⟨63, by unfold okB; omega, rfl⟩
    rcases List.mem_cons.mp hd with rfl | hd
    · exact ⟨3, by unfold okB; omega, rfl⟩
    rcases List.mem_cons.mp hd with rfl | hd
    · exact ⟨7, by unfold okB; omega, rfl⟩
    · rw [List.mem_singleton] at hd
      exact ⟨62, by unfold okB; omega, hd⟩)
  let t1 : Tk := ⟨a, pr, la, 63⟩
  let t2 : Tk := ⟨c, pr2, 1, b⟩
  have o1 : t1.ok := ⟨ka, by show 0 ≤ pr ∧ pr ≤ 10000; omega, by show 1 ≤ la ∧ la ≤ 1440; omega, by show okB 63; unfold okB; omega⟩
  have o2 : t2.ok := ⟨kc, by show 0 ≤ pr2 ∧ pr2 ≤ 10000; omega, by show (1 : Int) ≤ 1 ∧ (1 : Int) ≤ 1440; omega, hb⟩
  obtain ⟨d3, h3, ts, ht, rfl⟩ := atI_ex (xs := [D.lst [t1.d, t2.d], .lst [t2.d, t1.d]]) (i := x / 4 % 2) (Q := fun d => ∃ ts : List Tk, (ts = [t1, t2] ∨ ts = [t2, t1]) ∧ d = .lst (ts.map Tk.d)) (by omega) (by show x / 4 % 2 < 2; omega) (by
    intro d hd
    rcases List.mem_cons.mp hd with rfl | hd
    · exact ⟨[t1, t2], .inl rfl, rfl⟩
    · rw [List.mem_singleton] at hd
      exact ⟨[t2, t1], .inr rfl, hd⟩)
  obtain ⟨m, hm⟩ : ∃ m : Int, m = y % 14000000 := ⟨_, rfl⟩
  obtain ⟨g, hg⟩ : ∃ g : Int, g = 3 + v % 7 := ⟨_, rfl⟩
  obtain ⟨u, hu⟩ : ∃ u : Int, u = m + la + v / 8 % (g - 2) := ⟨_, rfl⟩
  refine ⟨ts, [(1, m), (z, m + g), (z, u), (z, u + 1)], by rcases ht with rfl | rfl <;> rfl, ?_, ?_, rfl, ?_, ?_⟩
  · rcases ht with rfl | rfl
    · simpa [t1, t2] using hne
    · simpa [t1, t2] using hne.symm
  · intro t h
    rcases ht with rfl | rfl <;> (simp at h; rcases h with rfl | rfl <;> assumption)
  · intro r hr
    have ok1 : okB 1 := by unfold okB; omega
    simp at hr
    rcases hr with rfl | rfl | rfl | rfl
    · exact ok1
    · exact hz
    · exact hz
    · exact hz
  have pz := p_zones (b := b) (s := [])
  have z63 : (zonesOf 63).map D.int = [.int 1, .int 2, .int 3, .int 4, .int 5, .int 6] := by
    rw [show zonesOf 63 = [1, 2, 3, 4, 5, 6] by decide +kernel]
    rfl
  have td1 : t1.d = .tup [.str a, .int pr, .int la, .lst [.int 1, .int 2, .int 3, .int 4, .int 5, .int 6]] := by
    show D.tup [.str a, .int pr, .int la, .lst ((zonesOf 63).map D.int)] = _
    rw [z63]
  have td2 : t2.d = .tup [.str c, .int pr2, .int 1, .lst ((zonesOf b).map D.int)] := rfl
  have key : g__law_crossed [some (.scr ns), none, none, none, none, none, none, none, none, none, none] [] = .rt (.tup [.lst (ts.map Tk.d), .lst ([((1 : Int), m), (z, m + g), (z, u), (z, u + 1)].map rD)]) [] := by
    unfold g__law_crossed
    refine seq_step (δ' := [some (.scr ns), some (.int x), none, none, none, none, none, none, none, none, none]) (s' := []) (by simp [e1]) ?_
    refine seq_step (δ' := [some (.scr ns), some (.int x), some (.lst [.str a, .str c]), none, none, none, none, none, none, none, none]) (s' := []) (by simp [e2]) ?_
    refine seq_step (δ' := [some (.scr ns), some (.int x), some (.lst [.str a, .str c]), some (.int la), none, none, none, none, none, none, none]) (s' := []) (by simp [hla]) ?_
    refine seq_step (δ' := [some (.scr ns), some (.int x), some (.lst [.str a, .str c]), some (.int la), some t1.d, none, none, none, none, none, none]) (s' := []) (by
      rw [td1]
      simp [hpr, lim_eq]
      try rfl) ?_
    refine seq_step (δ' := [some (.scr ns), some (.int x), some (.lst [.str a, .str c]), some (.int la), some t1.d, some t2.d, none, none, none, none, none]) (s' := []) (by
      rw [td2]
      generalize t1.d = T1
      simp [hpr2, lim_eq, h1, pz]
      try rfl) ?_
    generalize t1.d = T1 at *
    generalize t2.d = T2 at *
    refine seq_step (δ' := [some (.scr ns), some (.int x), some (.lst [.str a, .str c]), some (.int la), some T1, some T2, some (.int m), none, none, none, none]) (s' := []) (by simp [e3, hm]) ?_
    refine seq_step (δ' := [some (.scr ns), some (.int x), some (.lst [.str a, .str c]), some (.int la), some T1, some T2, some (.int m), some (.int g), none, none, none]) (s' := []) (by simp [e4, hg]) ?_
    refine seq_step (δ' := [some (.scr ns), some (.int x), some (.lst [.str a, .str c]), some (.int la), some T1, some T2, some (.int m), some (.int g), some (.int u), none, none]) (s' := []) (by
      have g2 : 0 < g - 2 := by omega
      have g3 : ¬ (g - 2 = 0) := by omega
      have g4 : 2 < g := by omega
      simp [e4, hu, g4]) ?_
    refine seq_step (δ' := [some (.scr ns), some (.int x), some (.lst [.str a, .str c]), some (.int la), some T1, some T2, some (.int m), some (.int g), some (.int u), some (.int z), none]) (s' := []) (by
      simp [h2, lim_eq]) ?_
    refine seq_step (δ' := [some (.scr ns), some (.int x), some (.lst [.str a, .str c]), some (.int la), some T1, some T2, some (.int m), some (.int g), some (.int u), some (.int z), some (.lst ([((1 : Int), m), (z, m + g), (z, u), (z, u + 1)].map rD))]) (s' := []) (by
      simp [lim_eq, rD]) ?_
    generalize ([((1 : Int), m), (z, m + g), (z, u), (z, u + 1)].map rD) = R
    simp [h3, lim_eq]
  show finO 0 (g__law_crossed [some (.scr ns), none, none, none, none, none, none, none, none, none, none] []) = _
  rw [key, fin_rt]
  unfold Mp.cut
  split
  · rfl
  · split
    · rfl
    · rfl
end Rb
namespace Rb
open PySem PySem.Spec L2 Mp
theorem add_ll {a b : List D} {s : Sto} (h : a.length + b.length ≤ 1000000) : oAdd (.lst a) (.lst b) s = .ok (.lst (a ++ b)) s := by
  simp [lim_eq, h]
theorem pure_law (ns : List Int) (hn : ns.length ≤ 63) : f_law [.scr ns] [] = .ok (.bl true) [] := by
  obtain ⟨x9, x0, x1, e9⟩ := p_draw (ns := ns) (k := 9) (s := []) (by omega)
  obtain ⟨ts1, t1, t2, t3, t4⟩ := p_tickets (ns := ns) (k := 0) (M := x9 % 4) (many := (x9 % 4).toNat) (by omega) (by omega) (by omega)
  have hT1 : Ts ts1 := ⟨t3, t2, by omega⟩
  obtain ⟨x8, y0, y1, e8⟩ := p_draw (ns := ns) (k := 8) (s := []) (by omega)
  have sb0 : Sb [] := rfl
  obtain ⟨r0, r1, r2, r3⟩ := p_rides (ns := ns) (M := x8 % 5) (s := []) sb0 (by omega)
  obtain ⟨rs1, q1, q2, q3⟩ := p_edged (ns := ns) t3 hT1.le (rs := r0) sb0 r2 (by omega)
  obtain ⟨x7, z0, z1, e7⟩ := p_draw (ns := ns) (k := 74) (s := []) (by omega)
  obtain ⟨ts2, rs2, u1, u2, u3, u4, u5, u6⟩ := p_crossed (ns := ns)
  obtain ⟨ts, rs, h, hr, hl, e3⟩ : ∃ (ts : List Tk) (rs : List Rd2), Ts ts ∧ (∀ r ∈ rs, okB r.1) ∧ rs.length ≤ 4 ∧ (sIf (tst (dOp oEq (dOp oMod (dCall f__law_draw (aCons (dVar 0) (aCons (dC (.int 74)) aNil))) (dC (.int 4))) (dC (.int 1)))) (sAsg (dCall f__law_crossed (aCons (dVar 0) aNil)) (tgT [(tgN 1), (tgN 2)])) sPass) [some (.scr ns), some (.lst (ts1.map Tk.d)), some (.lst (rs1.map rD)), none, none, none] [] = .nx [some (.scr ns), some (.lst (ts.map Tk.d)), some (.lst (rs.map rD)), none, none, none] [] := by
    by_cases c : x7 % 4 = 1
    · refine ⟨ts2, rs2, ⟨u3, u2, by omega⟩, u5, by omega, ?_⟩
      generalize ts2.map Tk.d = A at *
      generalize rs2.map rD = B at *
      generalize ts1.map Tk.d = C at *
      generalize rs1.map rD = D' at *
      simp [e7, c, u6]
    · refine ⟨ts1, rs1, hT1, q2, by omega, ?_⟩
      have c' : (x7 % 4 == 1) = false := by simpa using c
      generalize ts1.map Tk.d = C at *
      generalize rs1.map rD = D' at *
      simp [e7, c']
  have pn := p_net h.ok h.nd h.le
  have n0 : Nt ts (NetS ts []) := ⟨rfl, rfl⟩
  obtain ⟨w1, f1⟩ := p_lawleast h hr hl (s := NetS ts [])
  obtain ⟨w2, f2⟩ := p_good h (n0.app w1) hr hl
  -- the others
  obtain ⟨os, ho, hol, eo⟩ : ∃ os : List Rd2, (∀ r ∈ os, okB r.1) ∧ os.length ≤ 4 ∧ ∀ (s : Sto) (g : DS) (O : Out) (a b : D), g [some (.scr ns), some a, some (.lst (rs.map rD)), some (.loc 0), some b, some (.lst (os.map rD))] s = O →
      (sSeq (sSet 5 (dSl (dVar 2) (pSome (dC (.int 1))) pNone)) (sSeq (sIf (tst (dOp oNe (dVar 2) (dLst aNil))) (sSet 5 (dOp oAdd (dVar 5) (dLst (aCons (dTup (aCons (dC (.int 63)) (aCons (dOp oAdd (dOp oIx (dOp oIx (dVar 2) (dUn (fun i => -i) (dC (.int 1)))) (dC (.int 1))) (dC (.int 5))) aNil))) aNil)))) sPass) g)) [some (.scr ns), some a, some (.lst (rs.map rD)), some (.loc 0), some b, none] s = O := by
    cases rs with
    | nil =>
      refine ⟨[], (fun r hr => by cases hr), by simp, fun s g O a b hg => ?_⟩
      refine seq_step (δ' := [some (.scr ns), some a, some (.lst (([] : List Rd2).map rD)), some (.loc 0), some b, some (.lst (([] : List Rd2).map rD))]) (s' := s) (by
        simp [oSl_l]
        rfl) ?_
      have qe : oEqG true (.lst []) (.lst []) s = .ok (.bl false) s := by rw [oEq_ll (by simp) (by simp)]; rfl
      refine seq_step (δ' := [some (.scr ns), some a, some (.lst (([] : List Rd2).map rD)), some (.loc 0), some b, some (.lst (([] : List Rd2).map rD))]) (s' := s) (by
        simp [qe, lim_eq]) hg
    | cons r rs =>
      rw [List.length_cons] at hl
      obtain ⟨pre, la, ep⟩ : ∃ pre la, r :: rs = pre ++ [la] := by
        rcases List.eq_nil_or_concat (r :: rs) with e | ⟨pre, la, e⟩
        · cases e
        · exact ⟨pre, la, by rw [e, List.concat_eq_append]⟩
      refine ⟨rs ++ [(63, la.2 + 5)], fun y hy => ?_, by rw [List.length_append, List.length_singleton]; omega, fun s g O a b hg => ?_⟩
      · rcases List.mem_append.mp hy with hy | hy
        · exact hr y (List.mem_cons_of_mem _ hy)
        · rw [List.mem_singleton] at hy
          subst hy
          show okB 63
          unfold okB
          omega
      have c := cut_drop (xs := (r :: rs).map rD) (i := 1) (by simp)
      have c' : cutL ((r :: rs).map rD) (some 1) none = rs.map rD := c
      have al := at_last (xs := pre.map rD) (d := rD la)
      have em : (r :: rs).map rD = pre.map rD ++ [rD la] := by rw [ep]; simp
      rw [← em] at al
      have ne : oEqG true (.lst ((r :: rs).map rD)) (.lst []) s = .ok (.bl true) s := by
        rw [oEq_ll (dat_rD _) (by simp)]
        rfl
      have ad := add_ll (a := rs.map rD) (b := [rD (63, la.2 + 5)]) (s := s) (by simp; omega)
      have eo : (rs ++ [(63, la.2 + 5)]).map rD = rs.map rD ++ [rD (63, la.2 + 5)] := by simp
      rw [← eo] at ad
      generalize (r :: rs).map rD = RL at *
      generalize (rs ++ [(63, la.2 + 5)]).map rD = OL at *
      generalize rs.map rD = RS at *
      refine seq_step (δ' := [some (.scr ns), some a, some (.lst RL), some (.loc 0), some b, some (.lst RS)]) (s' := s) (by
        simp [oSl_l, c']) ?_
      refine seq_step (δ' := [some (.scr ns), some a, some (.lst RL), some (.loc 0), some b, some (.lst OL)]) (s' := s) (by
        have ad : oAdd (.lst RS) (.lst [.tup [.int 63, .int (la.2 + 5)]]) s = .ok (.lst OL) s := ad
        have x1 : (dOp oIx (dVar 2) (dUn (fun i => -i) (dC (.int 1)))) [some (.scr ns), some a, some (.lst RL), some (.loc 0), some b, some (.lst RS)] s = .ok (.tup [.int la.1, .int la.2]) s := by
          simp [al]
          rfl
        have x2 : (dOp oAdd (dOp oIx (dOp oIx (dVar 2) (dUn (fun i => -i) (dC (.int 1)))) (dC (.int 1))) (dC (.int 5))) [some (.scr ns), some a, some (.lst RL), some (.loc 0), some b, some (.lst RS)] s = .ok (.int (la.2 + 5)) s := by
          generalize (dOp oIx (dVar 2) (dUn (fun i => -i) (dC (.int 1)))) = F at *
          simp [x1]
        generalize (dOp oAdd (dOp oIx (dOp oIx (dVar 2) (dUn (fun i => -i) (dC (.int 1)))) (dC (.int 1))) (dC (.int 5))) = F at *
        generalize oAdd = OA at *
        simp [ne, x2, ad, lim_eq]) hg
  obtain ⟨w3, f3⟩ := p_lawleast h ho hol (s := NetS ts [] ++ w1 ++ w2)
  obtain ⟨w4, f4⟩ := p_good h (((n0.app w1).app w2).app w3) ho hol
  obtain ⟨w5, f5⟩ := p_good h ((((n0.app w1).app w2).app w3).app w4) hr hl
  have key : ∃ S, g_law [some (.scr ns), none, none, none, none, none] [] = .rt (.bl true) S := by
    refine ⟨NetS ts [] ++ w1 ++ w2 ++ w3 ++ w4 ++ w5, ?_⟩
    unfold g_law
    refine seq_step (δ' := [some (.scr ns), some (.lst (ts1.map Tk.d)), none, none, none, none]) (s' := []) (by
      generalize ts1.map Tk.d = A at *
      simp [e9, t4]) ?_
    refine seq_step (δ' := [some (.scr ns), some (.lst (ts1.map Tk.d)), some (.lst (rs1.map rD)), none, none, none]) (s' := []) (by
      generalize ts1.map Tk.d = A at *
      generalize rs1.map rD = B at *
      generalize r0.map rD = C at *
      simp [e8, r3, q3]) ?_
    refine seq_step e3 ?_
    generalize lsP ts rs = L1 at *
    generalize lsP ts os = L2 at *
    generalize ts.map Tk.d = A at *
    generalize rs.map rD = B at *
    refine seq_step (δ' := [some (.scr ns), some (.lst A), some (.lst B), some (.loc 0), none, none]) (s' := NetS ts []) (by
      generalize NetS ts [] = S at *
      simp [pn]) ?_
    refine seq_step (δ' := [some (.scr ns), some (.lst A), some (.lst B), some (.loc 0), some (oD L1), none]) (s' := NetS ts [] ++ w1) (by
      generalize NetS ts [] ++ w1 = S1 at *
      generalize NetS ts [] = S at *
      generalize oD L1 = D1 at *
      simp [f1]) ?_
    generalize NetS ts [] ++ w1 = S1 at *
    refine seq_step (δ' := [some (.scr ns), some (.lst A), some (.lst B), some (.loc 0), some (oD L1), none]) (s' := S1 ++ w2) (by
      generalize S1 ++ w2 = S2 at *
      generalize oD L1 = D1 at *
      simp [f2]) ?_
    generalize S1 ++ w2 = S2 at *
    refine eo _ _ _ _ _ ?_
    generalize os.map rD = C at *
    refine seq_step (δ' := [some (.scr ns), some (.lst A), some (.lst B), some (.loc 0), some (oD L1), some (.lst C)]) (s' := S2 ++ w3 ++ w4) (by
      generalize S2 ++ w3 = S3 at *
      generalize S3 ++ w4 = S4 at *
      generalize oD L1 = D1 at *
      generalize oD L2 = D2 at *
      simp [f3, f4]) ?_
    generalize S2 ++ w3 ++ w4 = S4 at *
    generalize S4 ++ w5 = S5 at *
    generalize oD L1 = D1 at *
    simp [f5]
  obtain ⟨S, key⟩ := key
  show finO 0 (g_law [some (.scr ns), none, none, none, none, none] []) = _
  rw [key, fin_rt]
  unfold Mp.cut
  split
  · rename_i e
    rw [List.length_eq_zero_iff.mp e]
  · split
    · rfl
    · rename_i e
      exfalso
      apply e
      simp [below]
end Rb
/-! ### the end -/
open PySem PySem.W PySem.Calls PyProof.Rows in
theorem PySem.Challenge.cw_roadbook_k19_least_by_all_ways_holds : PySem.Challenge.rw_roadbook_k19_least_by_all_ways.Holds := by
  w_on; o_law
  refine HandSHeadRun.head_any (r := OpenLaw.row PySem.Challenge.rw_roadbook_k19_least_by_all_ways) (q := view (OpenLaw.row PySem.Challenge.rw_roadbook_k19_least_by_all_ways).prog [45]) (H := Rb.hk) (ob := Rb.ob) (M := 8000) (loose := Rb.loose) (d := HandSHeadRun.topDef (OpenLaw.row PySem.Challenge.rw_roadbook_k19_least_by_all_ways).prog 45) (kwd := []) Rb.ob_eq
    (by kernel_rfl) (fun s => by kernel_rfl) Rb.run (by kernel_rfl) (by kernel_rfl) (by kernel_rfl) (by rfl) (by first | assumption | decide +kernel) (by decide +kernel) ⟨rfl, rfl, rfl, rfl, rfl, by decide +kernel⟩ ?hw ?hc
  case hw => w_witness2
  case hc =>
    refine Mp.law_walks (l := PySem.Challenge.rw_roadbook_k19_least_by_all_ways) (k := 8) (x := "_law_script") rfl (by kernel_rfl) ⟨rfl, by decide, by decide⟩ ?F
    intro w mg fa h Y G hmg0
    obtain ⟨K, KX, c⟩ := Y
    have hmg : mg ("law" : PySem.Str) = some (.ref fa) := by
      have e : (HandSHeadRun.topDef (OpenLaw.row PySem.Challenge.rw_roadbook_k19_least_by_all_ways).prog 45).name = ("law" : PySem.Str) := by kernel_rfl
      rw [← e]; exact hmg0
    obtain ⟨fd, hb, hF⟩ := Rb.facts (P := (PySem.Challenge.rw_roadbook_k19_least_by_all_ways).prog) (w := w) KX G hmg c
    exact ⟨K, fd, _, KX, hb, fun H a ns hl hO hS => Mp.law_end (k := 0) hO hS (Rb.pure_law ns hl), hF⟩
