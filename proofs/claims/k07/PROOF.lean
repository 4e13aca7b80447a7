import PyProof.Rows.All
import Wide.All
import OpenK.AllK
import Wide.FinOn
import HandS.ForMost
import HandS.Exc
import HandS.TryOnly
import HandS.ExcOwn
import HandS.WordsExc
import HandS.IsInst
import HandS.ExcIs
import HandS.CallSlots
import HandS.Defaults
import HandS.StrMore
import HandS.FStr
import HandS.Replace
import HandS.HeadEnd
import HandS.Head0
import HandS.Head1
import HandS.Head2
import HandS.HeadHook1
import HandS.HeadHook2
import HandS.HeadHook3
import HandS.HeadHook4
import HandS.Lambda
import HandS.EndTab
import HandS.HeadWalk
import HandS.Walk
import HandS.Zip
import HandS.Flow
import HandS.SetFor
import HandS.Conv
import HandS.ReplaceLit
import HandS.List
import HandS.New
import HandS.TupSets
import HandS.SortKw
import KE.DataMinMax
import HandS.Codes
import HandS.ListEq
import HandS.Style
import HandS.Deep
import HandS.Dict
import KE.DataFind
import PySem.Challenge.RW_roadbook_k07_trips_refused
set_option Elab.async false
set_option linter.all false
set_option maxRecDepth 100000
set_option maxHeartbeats 4000000
/-! # MpA -/
namespace Mp
open PySem PySem.Spec L2

/-! ## deep values, cells -/
inductive D where
  | non | bl (b : Bool) | int (i : Int) | str (s : List Nat)
  | tup (xs : List D) | lst (xs : List D) | scr (ns : List Int) | dct (ks vs : List D)
  | obj (c : Nat) (ns : List Nat) (vs : List D)
  | loc (n : Nat) | exc (c : Nat) | cls (c : Nat) | ty (n : String) | fn (a c : Addr) (q : Str) (vs : List V) (ds : List D)
instance : Inhabited D := ⟨.non⟩
inductive Cell where
  | dead | lst (xs : List D) | dct (ks vs : List D) | obj (c : Nat) (ns : List Nat) (vs : List D) | tbl (k : Nat)
abbrev Sto := List Cell
abbrev Env := List (Option D)
def Cell.live : Cell → Bool
  | .dead => false
  | _ => true
/-- codes to a text -/
def S (cs : List Nat) : Str := ⟨cs.toArray⟩
theorem S_len (cs : List Nat) : (S cs).length = cs.length := by simp [S, Str.length]
theorem S_inj {a b : List Nat} (h : S a = S b) : a = b := by
  have e : (S a).cps.toList = (S b).cps.toList := by rw [h]
  simpa [S] using e
theorem S_cat (a b : List Nat) : S a ++ S b = S (a ++ b) := by
  show (⟨a.toArray ++ b.toArray⟩ : Str) = ⟨(a ++ b).toArray⟩
  simp
/-- the tables: the written part, where classes stand, the fields' names -/
structure Tb where
  K : PySem.W.Frag
  ca : Nat → Addr
  fm : Nat → Str
  /-- the defs with a lambda: the code object, its table, the lambda's name -/
  tb : Nat → Addr × Str := fun _ => (0, "")

/-- a caught exception that is kept as a value -/
def ExV (cls : Value) (a : Addr) : HO := .ext fun h => ∃ oe : Obj, h.get? a = some oe ∧ Zc cls none oe ∧ ∃ vs, oe.data = .fields vs

def kD : Key → D
  | .inl i => .int i
  | .inr x => .str x.cps.toList
mutual
/-- v stands for the deep value, over the part F of the heap that does not change; ι: where the cells are -/
def Rp (T : Tb) (F : Hp) (ι : List Addr) : D → V → Prop
  | .non, v => v = .non
  | .bl b, v => v = .bl b
  | .int i, v => v = .int i
  | .str s, v => v = .str (S s)
  | .tup xs, v => ∃ a vs, v = .ref a ∧ F a = some (.tup vs) ∧ Rps T F ι xs vs
  | .lst xs, v => ∃ a vs, v = .ref a ∧ F a = some (.lst vs) ∧ Rps T F ι xs vs
  | .scr ns, v => ∃ a, v = .ref a ∧ SqL T.K F a (ns.map V.int)
  | .dct ks xs, v => ∃ a kvs, v = .ref a ∧ Rd F a (.dK kvs) ∧ ks = kvs.map (fun p => kD p.1) ∧ Rps T F ι xs (kvs.map (·.2))
  | .obj c ns xs, v => ∃ a dx fs, v = .ref a ∧ F a = some (.ins (T.ca c) dx fs) ∧ fs.map (·.1) = ns.map T.fm ∧ Rps T F ι xs (fs.map (·.2))
  | .loc n, v => ∃ a, ι[n]? = some a ∧ v = .ref a
  | .exc c, v => ∃ a, v = .ref a ∧ F a = some (ExV (.ref (T.ca c)) a)
  | .cls c, v => v = .ref (T.ca c)
  | .ty n, v => v = .ty n
  | .fn a c q vs ds, v => v = .ref a ∧ F c = some (LamX.CodeO c q) ∧ Rps T F ι ds vs
def Rps (T : Tb) (F : Hp) (ι : List Addr) : List D → List V → Prop
  | [], vs => vs = []
  | x :: xs, vs => ∃ v r, vs = v :: r ∧ Rp T F ι x v ∧ Rps T F ι xs r
end
def Grow (F : Hp) (ι : List Addr) (F' : Hp) (ι' : List Addr) : Prop := (∀ a o, F a = some o → F' a = some o) ∧ ∃ more, ι' = ι ++ more
theorem Grow.refl (F : Hp) (ι : List Addr) : Grow F ι F ι := ⟨fun _ _ h => h, [], by simp⟩
theorem Grow.trans {F F1 F2 : Hp} {ι ι1 ι2 : List Addr} (a : Grow F ι F1 ι1) (b : Grow F1 ι1 F2 ι2) : Grow F ι F2 ι2 := by
  obtain ⟨a1, m, e⟩ := a
  obtain ⟨b1, n, f⟩ := b
  exact ⟨fun x o h => b1 x o (a1 x o h), m ++ n, by rw [f, e, List.append_assoc]⟩
theorem Grow.at {F F' : Hp} {ι ι' : List Addr} (g : Grow F ι F' ι') {n : Nat} {a : Addr} (h : ι[n]? = some a) : ι'[n]? = some a := by
  obtain ⟨_, m, rfl⟩ := g
  rw [List.getElem?_append_left (List.getElem?_eq_some_iff.mp h).1]
  exact h
theorem rd_mono {F F' : Hp} (g : ∀ a o, F a = some o → F' a = some o) {a : Addr} {u : HO} (h : Rd F a u) : Rd F' a u := by
  rcases h with h | ⟨o, h⟩
  · exact .inl (g _ _ h)
  · exact .inr ⟨o, g _ _ h⟩
theorem sql_mono {K : PySem.W.Frag} {F F' : Hp} (g : ∀ a o, F a = some o → F' a = some o) {a : Addr} {xs : List V} (h : SqL K F a xs) : SqL K F' a xs := by
  rcases h with h | h
  · exact .inl (rd_mono g h)
  · exact .inr h
mutual
theorem Rp.mono {T : Tb} {F F' : Hp} {ι ι' : List Addr} (g : Grow F ι F' ι') : ∀ {d : D} {v : V}, Rp T F ι d v → Rp T F' ι' d v
  | .non, _, h => by unfold Rp at h ⊢; exact h
  | .bl _, _, h => by unfold Rp at h ⊢; exact h
  | .int _, _, h => by unfold Rp at h ⊢; exact h
  | .str _, _, h => by unfold Rp at h ⊢; exact h
  | .tup xs, v, h => by
    unfold Rp at h ⊢
    obtain ⟨a, vs, e, q, r⟩ := h
    exact ⟨a, vs, e, g.1 _ _ q, Rps.mono g r⟩
  | .lst xs, v, h => by
    unfold Rp at h ⊢
    obtain ⟨a, vs, e, q, r⟩ := h
    exact ⟨a, vs, e, g.1 _ _ q, Rps.mono g r⟩
  | .scr ns, v, h => by
    unfold Rp at h ⊢
    obtain ⟨a, e, q⟩ := h
    exact ⟨a, e, sql_mono g.1 q⟩
  | .dct ks xs, v, h => by
    unfold Rp at h ⊢
    obtain ⟨a, kvs, e, q, k, r⟩ := h
    exact ⟨a, kvs, e, rd_mono g.1 q, k, Rps.mono g r⟩
  | .obj c ns xs, v, h => by
    unfold Rp at h ⊢
    obtain ⟨a, dx, fs, e, q, k, r⟩ := h
    exact ⟨a, dx, fs, e, g.1 _ _ q, k, Rps.mono g r⟩
  | .loc n, v, h => by
    unfold Rp at h ⊢
    obtain ⟨a, q, e⟩ := h
    exact ⟨a, g.at q, e⟩
  | .exc c, v, h => by
    unfold Rp at h ⊢
    obtain ⟨a, e, q⟩ := h
    exact ⟨a, e, g.1 _ _ q⟩
  | .cls _, _, h => by unfold Rp at h ⊢; exact h
  | .ty _, _, h => by unfold Rp at h ⊢; exact h
  | .fn _ _ _ vs ds, _, h => by
    unfold Rp at h ⊢
    exact ⟨h.1, g.1 _ _ h.2.1, Rps.mono g h.2.2⟩
theorem Rps.mono {T : Tb} {F F' : Hp} {ι ι' : List Addr} (g : Grow F ι F' ι') : ∀ {ds : List D} {vs : List V}, Rps T F ι ds vs → Rps T F' ι' ds vs
  | [], _, h => by unfold Rps at h ⊢; exact h
  | x :: xs, vs, h => by
    unfold Rps at h ⊢
    obtain ⟨v, r, e, p, q⟩ := h
    exact ⟨v, r, e, Rp.mono g p, Rps.mono g q⟩
end
theorem Rps.len {T : Tb} {F : Hp} {ι : List Addr} : ∀ {ds : List D} {vs : List V}, Rps T F ι ds vs → ds.length = vs.length
  | [], _, h => by unfold Rps at h; subst h; rfl
  | x :: xs, vs, h => by
    unfold Rps at h
    obtain ⟨v, r, rfl, _, q⟩ := h
    simp [q.len]
theorem Rps.get {T : Tb} {F : Hp} {ι : List Addr} : ∀ {ds : List D} {vs : List V} {i : Nat} {d : D}, Rps T F ι ds vs → ds[i]? = some d → ∃ v, vs[i]? = some v ∧ Rp T F ι d v
  | [], _, _, _, _, e => by simp at e
  | x :: xs, vs, 0, d, h, e => by
    unfold Rps at h
    obtain ⟨v, r, rfl, p, _⟩ := h
    simp at e
    subst e
    exact ⟨v, rfl, p⟩
  | x :: xs, vs, i + 1, d, h, e => by
    unfold Rps at h
    obtain ⟨v, r, rfl, _, q⟩ := h
    obtain ⟨u, e1, e2⟩ := q.get (i := i) (by simpa using e)
    exact ⟨u, by simpa using e1, e2⟩
theorem Rps.nil {T : Tb} {F : Hp} {ι : List Addr} : Rps T F ι [] [] := by unfold Rps; rfl
theorem Rps.cons {T : Tb} {F : Hp} {ι : List Addr} {d : D} {v : V} {ds : List D} {vs : List V} (h : Rp T F ι d v) (r : Rps T F ι ds vs) : Rps T F ι (d :: ds) (v :: vs) := by
  unfold Rps
  exact ⟨v, vs, rfl, h, r⟩
theorem Rps.app {T : Tb} {F : Hp} {ι : List Addr} : ∀ {ds es : List D} {vs us : List V}, Rps T F ι ds vs → Rps T F ι es us → Rps T F ι (ds ++ es) (vs ++ us)
  | [], _, _, _, h, k => by unfold Rps at h; subst h; exact k
  | x :: xs, es, vs, us, h, k => by
    unfold Rps at h
    obtain ⟨v, r, rfl, p, q⟩ := h
    exact .cons p (q.app k)
theorem Rps.take {T : Tb} {F : Hp} {ι : List Addr} : ∀ {ds : List D} {vs : List V} (n : Nat), Rps T F ι ds vs → Rps T F ι (ds.take n) (vs.take n)
  | _, _, 0, _ => by simpa using Rps.nil
  | [], _, n + 1, h => by unfold Rps at h; subst h; simpa using Rps.nil
  | x :: xs, vs, n + 1, h => by
    unfold Rps at h
    obtain ⟨v, r, rfl, p, q⟩ := h
    simpa using Rps.cons p (q.take n)
theorem Rps.drop {T : Tb} {F : Hp} {ι : List Addr} : ∀ {ds : List D} {vs : List V} (n : Nat), Rps T F ι ds vs → Rps T F ι (ds.drop n) (vs.drop n)
  | _, _, 0, h => by simpa using h
  | [], _, n + 1, h => by unfold Rps at h; subst h; simpa using Rps.nil
  | x :: xs, vs, n + 1, h => by
    unfold Rps at h
    obtain ⟨v, r, rfl, p, q⟩ := h
    simpa using q.drop n
theorem Rps.set {T : Tb} {F : Hp} {ι : List Addr} {d : D} {v : V} (h : Rp T F ι d v) : ∀ {ds : List D} {vs : List V} (n : Nat), Rps T F ι ds vs → Rps T F ι (ds.set n d) (vs.set n v)
  | [], _, n, k => by unfold Rps at k; subst k; simpa using Rps.nil
  | x :: xs, vs, 0, k => by
    unfold Rps at k
    obtain ⟨v, r, rfl, p, q⟩ := k
    exact .cons h q
  | x :: xs, vs, n + 1, k => by
    unfold Rps at k
    obtain ⟨v, r, rfl, p, q⟩ := k
    exact .cons p (q.set h n)

/-! ## the store and the heap -/
def CellAt (T : Tb) (ι : List Addr) (F H : Hp) (a : Addr) : Cell → Prop
  | .dead => True
  | .lst xs => F a = none ∧ ∃ vs, H a = some (.lst vs) ∧ Rps T F ι xs vs
  | .dct ks xs => F a = none ∧ ∃ kvs, H a = some (.dK kvs) ∧ ks = kvs.map (fun p => kD p.1) ∧ Rps T F ι xs (kvs.map (·.2))
  | .obj c ns xs => F a = none ∧ ∃ dx fs, H a = some (.ins (T.ca c) dx fs) ∧ fs.map (·.1) = ns.map T.fm ∧ Rps T F ι xs (fs.map (·.2))
  | .tbl k => F a = none ∧ a = (T.tb k).1 ∧ ∃ ps : Array Value, H a = some (.tbl ps) ∧ TriplesOk ps.toList ∧ ∀ (pos : Pos) (cv : Value), codeAmong pos ps.toList = some cv → ∃ c, cv = .ref c ∧ F c = some (LamX.CodeO c (T.tb k).2)
structure RelH (T : Tb) (P : Hp) (ι : List Addr) (F : Hp) (s : Sto) (H : Hp) : Prop where
  sub : ∀ a o, F a = some o → H a = some o
  pro : ∀ a o, P a = some o → H a = some o
  dis : ∀ a o, P a = some o → F a = none
  len : ι.length = s.length
  cell : ∀ (n : Nat) c a, s[n]? = some c → ι[n]? = some a → CellAt T ι F H a c
  npr : ∀ (n : Nat) c a, s[n]? = some c → c.live = true → ι[n]? = some a → P a = none
  nod : ∀ (n m : Nat) c c' a, s[n]? = some c → s[m]? = some c' → c.live = true → c'.live = true → ι[n]? = some a → ι[m]? = some a → n = m
structure REnv (T : Tb) (F : Hp) (ι : List Addr) (δ : Env) (σ : L2.St) : Prop where
  len : δ.length = σ.length
  at_ : ∀ (i : Nat) d, δ[i]? = some (some d) → ∃ v, σ[i]? = some (some v) ∧ Rp T F ι d v
theorem REnv.mono {T : Tb} {F F' : Hp} {ι ι' : List Addr} {δ : Env} {σ : L2.St} (e : REnv T F ι δ σ) (g : Grow F ι F' ι') : REnv T F' ι' δ σ :=
  ⟨e.len, fun i d h => let ⟨v, e1, e2⟩ := e.at_ i d h; ⟨v, e1, e2.mono g⟩⟩
theorem REnv.set {T : Tb} {F : Hp} {ι : List Addr} {δ : Env} {σ : L2.St} {d : D} {v : V} (e : REnv T F ι δ σ) (h : Rp T F ι d v) (i : Nat) : REnv T F ι (δ.set i (some d)) (σ.set i (some v)) := by
  refine ⟨by simp [e.len], fun j d' hj => ?_⟩
  by_cases c : i = j
  · subst c
    have hl : i < δ.length := by
      have := (List.getElem?_eq_some_iff.mp hj).1
      simpa using this
    rw [List.getElem?_set_self hl] at hj
    cases hj
    exact ⟨v, by rw [List.getElem?_set_self (by rw [← e.len]; exact hl)], h⟩
  · rw [List.getElem?_set_ne c] at hj
    obtain ⟨u, e1, e2⟩ := e.at_ j d' hj
    exact ⟨u, by rw [List.getElem?_set_ne c]; exact e1, e2⟩
theorem REnv.unset {T : Tb} {F : Hp} {ι : List Addr} {δ : Env} {σ : L2.St} {o : Option V} (e : REnv T F ι δ σ) (i : Nat) : REnv T F ι (δ.set i none) (σ.set i o) := by
  refine ⟨by simp [e.len], fun j d' hj => ?_⟩
  by_cases c : i = j
  · subst c
    have hl : i < δ.length := by
      have := (List.getElem?_eq_some_iff.mp hj).1
      simpa using this
    rw [List.getElem?_set_self hl] at hj
    cases hj
  · rw [List.getElem?_set_ne c] at hj
    obtain ⟨u, e1, e2⟩ := e.at_ j d' hj
    exact ⟨u, by rw [List.getElem?_set_ne c]; exact e1, e2⟩

section
variable {T : Tb} {P : Hp} {ι : List Addr} {F : Hp} {s : Sto} {H : Hp}
theorem CellAt.grow {ι' : List Addr} {F' H' : Hp} {a : Addr} {c : Cell} (h : CellAt T ι F H a c) (g : Grow F ι F' ι') (hF : c.live = true → F' a = F a) (hH : c.live = true → H' a = H a) : CellAt T ι' F' H' a c := by
  cases c with
  | dead => trivial
  | lst xs =>
    obtain ⟨h1, vs, h2, h3⟩ := h
    exact ⟨by rw [hF rfl]; exact h1, vs, by rw [hH rfl]; exact h2, h3.mono g⟩
  | dct ks xs =>
    obtain ⟨h1, vs, h2, h3, h4⟩ := h
    exact ⟨by rw [hF rfl]; exact h1, vs, by rw [hH rfl]; exact h2, h3, h4.mono g⟩
  | obj c ns xs =>
    obtain ⟨h1, dx, vs, h2, h3, h4⟩ := h
    exact ⟨by rw [hF rfl]; exact h1, dx, vs, by rw [hH rfl]; exact h2, h3, h4.mono g⟩
  | tbl k =>
    obtain ⟨h1, h2, ps, h3, h4, h5⟩ := h
    exact ⟨by rw [hF rfl]; exact h1, h2, ps, by rw [hH rfl]; exact h3, h4, fun pos cv e => let ⟨c, e1, e2⟩ := h5 pos cv e; ⟨c, e1, g.1 _ _ e2⟩⟩
theorem CellAt.has {a : Addr} {c : Cell} (h : CellAt T ι F H a c) (hl : c.live = true) : ∃ o, H a = some o := by
  cases c with
  | dead => cases hl
  | lst xs => obtain ⟨_, vs, h2, _⟩ := h; exact ⟨_, h2⟩
  | dct ks xs => obtain ⟨_, vs, h2, _⟩ := h; exact ⟨_, h2⟩
  | obj c ns xs => obtain ⟨_, dx, vs, h2, _⟩ := h; exact ⟨_, h2⟩
  | tbl k => obtain ⟨_, _, ps, h2, _⟩ := h; exact ⟨_, h2⟩
theorem RelH.freeF (R : RelH T P ι F s H) {p : Addr} (h : H p = none) : F p = none := by
  cases e : F p with
  | none => rfl
  | some o => rw [R.sub _ _ e] at h; cases h
theorem RelH.freeP (R : RelH T P ι F s H) {p : Addr} (h : H p = none) : P p = none := by
  cases e : P p with
  | none => rfl
  | some o => rw [R.pro _ _ e] at h; cases h
theorem grow_new (hF : F p = none) (o : HO) : Grow F ι (upd F p o) ι := ⟨fun a u h => by rw [upd_ne (ne_of_none h hF)]; exact h, [], by simp⟩
/-- a new object that stays as it is -/
theorem RelH.new (R : RelH T P ι F s H) {p : Addr} (hp : H p = none) (o : HO) : RelH T P ι (upd F p o) s (upd H p o) where
  sub := fun a u h => by
    by_cases c : a = p
    · subst c; rw [upd_same] at h ⊢; exact h
    · rw [upd_ne c] at h ⊢; exact R.sub a u h
  pro := fun a u h => by
    have q := R.pro a u h
    rw [upd_ne (ne_of_none q hp)]; exact q
  dis := fun a u h => by
    have q := R.pro a u h
    rw [upd_ne (ne_of_none q hp)]; exact R.dis a u h
  len := R.len
  cell := fun n c a h1 h2 => by
    have q := R.cell n c a h1 h2
    refine q.grow (grow_new (R.freeF hp) o) (fun l => ?_) (fun l => ?_)
    all_goals
      obtain ⟨u, hu⟩ := q.has l
      exact upd_ne (ne_of_none hu hp)
  npr := R.npr
  nod := R.nod
/-- a new object that is ours, under protection -/
theorem RelH.newP (R : RelH T P ι F s H) {p : Addr} (hp : H p = none) (o : HO) : RelH T (upd P p o) ι F s (upd H p o) where
  sub := fun a u h => by
    have q := R.sub a u h
    rw [upd_ne (ne_of_none q hp)]; exact q
  pro := fun a u h => by
    by_cases c : a = p
    · subst c; rw [upd_same] at h ⊢; exact h
    · rw [upd_ne c] at h ⊢; exact R.pro a u h
  dis := fun a u h => by
    by_cases c : a = p
    · subst c; exact R.freeF hp
    · rw [upd_ne c] at h; exact R.dis a u h
  len := R.len
  cell := fun n c a h1 h2 => by
    have q := R.cell n c a h1 h2
    refine q.grow (Grow.refl _ _) (fun _ => rfl) (fun l => ?_)
    obtain ⟨u, hu⟩ := q.has l
    exact upd_ne (ne_of_none hu hp)
  npr := fun n c a h1 l h2 => by
    obtain ⟨u, hu⟩ := (R.cell n c a h1 h2).has l
    rw [upd_ne (ne_of_none hu hp)]; exact R.npr n c a h1 l h2
  nod := R.nod
theorem RelH.setP (R : RelH T P ι F s H) {p : Addr} {u : HO} (hp : P p = some u) (o : HO) : RelH T (upd P p o) ι F s (upd H p o) where
  sub := fun a u h => by
    have n : a ≠ p := fun z => by subst z; rw [R.dis _ _ hp] at h; cases h
    rw [upd_ne n]; exact R.sub a u h
  pro := fun a u h => by
    by_cases c : a = p
    · subst c; rw [upd_same] at h ⊢; exact h
    · rw [upd_ne c] at h ⊢; exact R.pro a u h
  dis := fun a v h => by
    by_cases c : a = p
    · subst c; exact R.dis _ _ hp
    · rw [upd_ne c] at h; exact R.dis a v h
  len := R.len
  cell := fun n c a h1 h2 => by
    have q := R.cell n c a h1 h2
    refine q.grow (Grow.refl _ _) (fun _ => rfl) (fun l => ?_)
    have hn := R.npr n c a h1 l h2
    exact upd_ne (fun z => by subst z; rw [hp] at hn; cases hn)
  npr := fun n c a h1 l h2 => by
    have hn := R.npr n c a h1 l h2
    rw [upd_ne (fun z => by subst z; rw [hp] at hn; cases hn)]; exact hn
  nod := R.nod
/-- what was under protection stays as it is from now on -/
theorem RelH.thaw {o : HO} {p : Addr} (R : RelH T (upd P p o) ι F s H) (hp : P p = none) : RelH T P ι (upd F p o) s H where
  sub := fun a u h => by
    by_cases c : a = p
    · subst c; rw [upd_same] at h; exact R.pro a u (by rw [upd_same]; exact h)
    · rw [upd_ne c] at h; exact R.sub a u h
  pro := fun a u h => R.pro a u (by rw [upd_ne (ne_of_none h hp)]; exact h)
  dis := fun a u h => by
    rw [upd_ne (ne_of_none h hp)]
    exact R.dis a u (by rw [upd_ne (ne_of_none h hp)]; exact h)
  len := R.len
  cell := fun n c a h1 h2 => by
    have q := R.cell n c a h1 h2
    have hF : F p = none := R.dis p o upd_same
    refine q.grow (grow_new hF o) (fun l => ?_) (fun _ => rfl)
    have hn := R.npr n c a h1 l h2
    exact upd_ne (fun z => by subst z; rw [upd_same] at hn; cases hn)
  npr := fun n c a h1 l h2 => by
    have hn := R.npr n c a h1 l h2
    have ne : a ≠ p := fun z => by subst z; rw [upd_same] at hn; cases hn
    rw [upd_ne ne] at hn; exact hn
  nod := R.nod
end
end Mp
/-! # MpB -/
namespace Mp
open PySem PySem.Spec L2

/-! ## results -/
inductive Res (α : Type) where
  | ok (a : α) (s : Sto) | exc (c : Nat) (s : Sto) | stuck
def Res.bind {α β : Type} : Res α → (α → Sto → Res β) → Res β
  | .ok a s, k => k a s
  | .exc c s, _ => .exc c s
  | .stuck, _ => .stuck
abbrev DE := Env → Sto → Res D
abbrev DT := Env → Sto → Res Bool
abbrev DA := Env → Sto → Res (List D)
def Post {α β : Type} (T : Tb) (P : Hp) (Rl : Hp → List Addr → α → β → Prop) (Q : β → Hp → Prop) (E : Nat → Hp → Prop) (F : Hp) (ι : List Addr) : Res α → Prop
  | .ok d s' => ∀ v H' ι' F', Grow F ι F' ι' → RelH T P ι' F' s' H' → Rl F' ι' d v → Q v H'
  | .exc c s' => ∀ H' ι' F', Grow F ι F' ι' → RelH T P ι' F' s' H' → E c H'
  | .stuck => False
abbrev eqR {α : Type} : Hp → List Addr → α → α → Prop := fun _ _ a b => a = b
def DenG {α β : Type} (T : Tb) (Rl : Hp → List Addr → α → β → Prop) (W : WX) (t : L2.St → Hp → (β → Hp → Prop) → Prop) (f : Env → Sto → Res α) : Prop :=
  ∀ σ H P ι F δ s Q, RelH T P ι F s H → REnv T F ι δ σ → Post T P Rl Q (fun c H' => W (.ref (T.ca c)) none σ H') F ι (f δ s) → t σ H Q
theorem Post.mono {α β : Type} {T : Tb} {P : Hp} {Rl : Hp → List Addr → α → β → Prop} {Q : β → Hp → Prop} {E : Nat → Hp → Prop} {F F1 : Hp} {ι ι1 : List Addr} {r : Res α} (g : Grow F ι F1 ι1) (h : Post T P Rl Q E F ι r) : Post T P Rl Q E F1 ι1 r := by
  cases r with
  | ok d s => exact fun v H' ι' F' g' => h v H' ι' F' (g.trans g')
  | exc c s => exact fun H' ι' F' g' => h H' ι' F' (g.trans g')
  | stuck => exact h
/-- the value is at hand -/
theorem Post.here {α β : Type} {T : Tb} {P : Hp} {Rl : Hp → List Addr → α → β → Prop} {Q : β → Hp → Prop} {E : Nat → Hp → Prop} {F : Hp} {ι : List Addr} {d : α} {s : Sto} {H : Hp} {v : β} (h : Post T P Rl Q E F ι (.ok d s)) (R : RelH T P ι F s H) (r : Rl F ι d v) : Q v H :=
  h v H ι F (Grow.refl _ _) R r
theorem Post.new {α : Type} {T : Tb} {P : Hp} {Rl : Hp → List Addr → α → V → Prop} {Q : V → Hp → Prop} {E : Nat → Hp → Prop} {F : Hp} {ι : List Addr} {d : α} {s : Sto} {H : Hp} {p : Addr} {o : HO} (h : Post T P Rl Q E F ι (.ok d s)) (R : RelH T P ι F s H) (hp : H p = none) (r : Grow F ι (upd F p o) ι → Rl (upd F p o) ι d (.ref p)) : Q (.ref p) (upd H p o) :=
  h _ _ _ _ (grow_new (R.freeF hp) o) (R.new hp o) (r (grow_new (R.freeF hp) o))
/-- one after another -/
theorem den_then {α β α2 β2 : Type} {T : Tb} {R1 : Hp → List Addr → α → β → Prop} {R2 : Hp → List Addr → α2 → β2 → Prop} {W : WX} {t : L2.St → Hp → (β → Hp → Prop) → Prop} {f : Env → Sto → Res α} {k : α → Sto → Res α2}
    {σ : L2.St} {H P : Hp} {ι : List Addr} {F : Hp} {δ : Env} {s : Sto} {Q : β2 → Hp → Prop} {G : β → Hp → Prop} (h1 : DenG T R1 W t f) (R : RelH T P ι F s H) (E : REnv T F ι δ σ)
    (post : Post T P R2 Q (fun c H' => W (.ref (T.ca c)) none σ H') F ι ((f δ s).bind k))
    (hk : ∀ x y H1 ι1 F1 s1, Grow F ι F1 ι1 → RelH T P ι1 F1 s1 H1 → REnv T F1 ι1 δ σ → R1 F1 ι1 x y → Post T P R2 Q (fun c H' => W (.ref (T.ca c)) none σ H') F1 ι1 (k x s1) → G y H1) : t σ H G := by
  refine h1 σ H P ι F δ s G R E ?_
  cases e : f δ s with
  | ok x s1 =>
    rw [e] at post
    exact fun v H' ι' F' g R' r => hk x v H' ι' F' s1 g R' (E.mono g) r (post.mono g)
  | exc c s1 =>
    rw [e] at post
    exact post
  | stuck =>
    rw [e] at post
    exact post

/-! ## judgements: a derivation in HandS and what it evaluates to -/
def PDe (T : Tb) (X : Cx) (e : Expr) (f : DE) : Prop := ∀ pn xe W, Takes (X.tr pn xe) W → ∃ t, PE (X.tr pn xe) e t ∧ DenG T (Rp T) W t f
def PDt (T : Tb) (X : Cx) (e : Expr) (f : DT) : Prop := ∀ pn xe W, Takes (X.tr pn xe) W → ∃ t, PT (X.tr pn xe) e t ∧ DenG T eqR W t f
abbrev RpsN (T : Tb) (n : Nat) : Hp → List Addr → List D → List V → Prop := fun F ι ds vs => Rps T F ι ds vs ∧ vs.length = n
def PDa (T : Tb) (X : Cx) (es : List Expr) (f : DA) : Prop := ∀ pn xe W, Takes (X.tr pn xe) W → ∃ t, PA (X.tr pn xe) es t ∧ DenG T (RpsN T es.length) W t f

/-! ## names and constants -/
def dVar (i : Nat) : DE := fun δ s => match δ[i]? with
  | some (some d) => .ok d s
  | _ => .stuck
def dC (d : D) : DE := fun _ s => .ok d s
section
variable {T : Tb} {X : Cx}
theorem d_var {x : Str} {pos : Pos} (i : Nat) (hN : X.N[i]? = some x := by rfl) (hv : Vis X.env.scope x := by first | exact Or.inl rfl | exact Or.inr (Or.inl rfl) | exact Or.inr (Or.inr rfl)) (hd : (x == ("__debug__" : Str)) = false := by decide)
    (hcd : (x == ("__classdict__" : Str)) = false := by decide) : PDe T X (.Name x pos) (dVar i) := by
  intro pn xe W tk
  refine ⟨_, pe_var (i := i) (X := X.tr pn xe) hN hv hd hcd, fun σ H P ι F δ s Q R E post => ?_⟩
  unfold dVar at post
  cases e : δ[i]? with
  | none => rw [e] at post; exact post.elim
  | some o =>
    cases o with
    | none => rw [e] at post; exact post.elim
    | some d =>
      rw [e] at post
      obtain ⟨v, e1, e2⟩ := E.at_ i d e
      exact ⟨v, e1, post.here R e2⟩
theorem den_c {W : WX} {d : D} {v : V} (h : ∀ F ι, Rp T F ι d v) : DenG T (Rp T) W (tC v) (dC d) := fun _ _ _ ι F _ _ _ R _ post => post.here R (h F ι)
theorem d_int {i j pos} : PDe T X (.Constant (.int i) j pos) (dC (.int i)) := fun pn xe W _ => ⟨_, pe_int, den_c fun _ _ => by unfold Rp; rfl⟩
theorem d_bl {b j pos} : PDe T X (.Constant (.bool b) j pos) (dC (.bl b)) := fun pn xe W _ => ⟨_, pe_bl, den_c fun _ _ => by unfold Rp; rfl⟩
theorem d_non {j pos} : PDe T X (.Constant .none j pos) (dC .non) := fun pn xe W _ => ⟨_, pe_non, den_c fun _ _ => by unfold Rp; rfl⟩
theorem d_str {x : Str} {j pos} (cs : List Nat) (h : x = S cs) : PDe T X (.Constant (.str x) j pos) (dC (.str cs)) := fun pn xe W _ => ⟨_, pe_str, den_c fun _ _ => by unfold Rp; rw [h]⟩
/-- a module's constant -/
theorem d_glob {x : Str} {pos : Pos} {d : D} {v : V} (h : ∀ F ι, Rp T F ι d v) (hm : ∃ u, X.mg x = some u ∧ RelV v u) (hg : Gl X x := by rfl) (hd : (x == ("__debug__" : Str)) = false := by decide) : PDe T X (.Name x pos) (dC d) := fun pn xe W _ => by
  obtain ⟨u, h1, h2⟩ := hm
  exact ⟨_, pe_glob (X := X.tr pn xe) hg h1 h2 hd, den_c h⟩
/-- a built-in class as a value -/
theorem d_ty {x : Str} {pos : Pos} (n : String) (hm : X.mg x = none) (hv : bootBuiltins x = some (.type n)) (hg : Gl X x := by rfl) (hn : x ≠ "__name__" := by decide) (hd : (x == ("__debug__" : Str)) = false := by decide) : PDe T X (.Name x pos) (dC (.ty n)) := fun pn xe W _ =>
  ⟨_, pe_bltn (X := X.tr pn xe) (v := .ty n) hg hm hv rfl hn hd, den_c fun _ _ => by unfold Rp; rfl⟩
/-- a class of the text as a value -/
theorem d_cls {x : Str} {pos : Pos} (c : Nat) (hm : X.mg x = some (.ref (T.ca c))) (hg : Gl X x := by rfl) (hd : (x == ("__debug__" : Str)) = false := by decide) : PDe T X (.Name x pos) (dC (.cls c)) := fun pn xe W _ =>
  ⟨_, pe_glob (X := X.tr pn xe) (v := .ref (T.ca c)) hg hm rfl hd, den_c fun _ _ => by unfold Rp; rfl⟩

/-! ## arguments -/
def aNil : DA := fun _ s => .ok [] s
def aCons (f : DE) (g : DA) : DA := fun δ s => (f δ s).bind fun x s1 => (g δ s1).bind fun xs s2 => .ok (x :: xs) s2
theorem a_nil : PDa T X [] aNil := fun pn xe W _ => ⟨_, pa_nil, fun _ _ _ _ _ _ _ _ R _ post => post.here R ⟨.nil, rfl⟩⟩
theorem a_cons {e : Expr} {es : List Expr} {f : DE} {g : DA} (he : PDe T X e f) (hr : PDa T X es g) (hs : starEach (e :: es) X.env = (false, eval e X.env) :: starEach es X.env := by rfl) : PDa T X (e :: es) (aCons f g) := fun pn xe W tk => by
  obtain ⟨t1, p1, d1⟩ := he pn xe W tk
  obtain ⟨t2, p2, d2⟩ := hr pn xe W tk
  refine ⟨_, pa_cons (X := X.tr pn xe) p1 p2 hs, fun σ H P ι F δ s Q R E post => ?_⟩
  show t1 σ H _
  refine den_then d1 R E post fun x y H1 ι1 F1 s1 g1 R1 E1 r1 post1 => ?_
  refine den_then d2 R1 E1 post1 fun xs ys H2 ι2 F2 s2 g2 R2 E2 r2 post2 => ?_
  exact post2.here R2 ⟨.cons (r1.mono g2) r2.1, congrArg Nat.succ r2.2⟩

/-! ## operators -/
abbrev DOp := D → D → Sto → Res D
def dOp (op : DOp) (fa fb : DE) : DE := fun δ s => (fa δ s).bind fun x s1 => (fb δ s1).bind fun y s2 => op x y s2
/-- what an operator's reading asks follows from the deep one -/
def DenOp (T : Tb) (r : R2) (op : DOp) : Prop := ∀ x y dx dy H P ι F s Q E, RelH T P ι F s H → Rp T F ι dx x → Rp T F ι dy y → Post T P (Rp T) Q E F ι (op dx dy s) → r x y H Q
theorem den_op {W : WX} {r : R2} {op : DOp} {ta tb : TE} {fa fb : DE} (ho : DenOp T r op) (ha : DenG T (Rp T) W ta fa) (hb : DenG T (Rp T) W tb fb) : DenG T (Rp T) W (tOp r ta tb) (dOp op fa fb) := fun σ H P ι F δ s Q R E post => by
  show ta σ H _
  refine den_then ha R E post fun x y H1 ι1 F1 s1 g1 R1 E1 r1 post1 => ?_
  refine den_then hb R1 E1 post1 fun x2 y2 H2 ι2 F2 s2 g2 R2 E2 r2 post2 => ?_
  exact ho _ _ _ _ _ _ _ _ _ _ _ R2 (r1.mono g2) r2 post2
theorem d_op {a b : Expr} {pos : Pos} {op : Operator} {r : R2} {o : DOp} {fa fb : DE} (hr : ∀ pn xe, OpR (X.tr pn xe) (binaryOp op) r) (ho : DenOp T r o) (ha : PDe T X a fa) (hb : PDe T X b fb) : PDe T X (.BinOp a op b pos) (dOp o fa fb) := fun pn xe W tk => by
  obtain ⟨t1, p1, d1⟩ := ha pn xe W tk
  obtain ⟨t2, p2, d2⟩ := hb pn xe W tk
  exact ⟨_, pe_op (hr pn xe) p1 p2, den_op ho d1 d2⟩
theorem d_cmp {a b : Expr} {pos : Pos} {op : CmpOp} {r : R2} {o : DOp} {fa fb : DE} (hr : ∀ pn xe, OpR (X.tr pn xe) (compareOp op) r) (ho : DenOp T r o) (ha : PDe T X a fa) (hb : PDe T X b fb) (hm : behindInMarks op b = false) : PDe T X (.Compare a [op] [b] pos) (dOp o fa fb) := fun pn xe W tk => by
  obtain ⟨t1, p1, d1⟩ := ha pn xe W tk
  obtain ⟨t2, p2, d2⟩ := hb pn xe W tk
  exact ⟨_, pe_cmpR (hr pn xe) p1 p2 hm, den_op ho d1 d2⟩
/-- a value that is True or False, as a test -/
def tst (f : DE) : DT := fun δ s => (f δ s).bind fun x s1 => match x with
  | .bl b => .ok b s1
  | _ => .stuck
theorem den_tst {W : WX} {t : TE} {f : DE} (h : DenG T (Rp T) W t f) : DenG T eqR W (fun σ H Q => t σ H fun x H' => ∃ k, x = .bl k ∧ Q k H') (tst f) := fun σ H P ι F δ s Q R E post => by
  refine den_then h R E post fun x y H1 ι1 F1 s1 g1 R1 E1 r1 post1 => ?_
  cases x with
  | bl b =>
    unfold Rp at r1
    exact ⟨b, r1, post1.here R1 rfl⟩
  | _ => exact post1.elim
theorem t_cmp {a b : Expr} {pos : Pos} {op : CmpOp} {r : R2} {o : DOp} {fa fb : DE} (hr : ∀ pn xe, OpR (X.tr pn xe) (compareOp op) r) (ho : DenOp T r o) (ha : PDe T X a fa) (hb : PDe T X b fb) (hm : behindInMarks op b = false) : PDt T X (.Compare a [op] [b] pos) (tst (dOp o fa fb)) := fun pn xe W tk => by
  obtain ⟨t1, p1, d1⟩ := ha pn xe W tk
  obtain ⟨t2, p2, d2⟩ := hb pn xe W tk
  exact ⟨_, pt_cmpR (hr pn xe) p1 p2 hm, den_tst (den_op ho d1 d2)⟩
theorem t_val {e : Expr} {f : DE} (h : PDe T X e f) (he : ∀ whole, isTrue e X.env whole = (do let v ← whole; standAt e.pos; holding [v] (truthy v)) := by intro _; rfl) : PDt T X e (tst f) := fun pn xe W tk => by
  obtain ⟨t1, p1, d1⟩ := h pn xe W tk
  exact ⟨_, pt_val (X := X.tr pn xe) p1 he, den_tst d1⟩
/-- a < b < c -/
def dChain (op op' : DOp) (fa fb fc : DE) : DE := fun δ s => (fa δ s).bind fun x s1 => (fb δ s1).bind fun y s2 => (op x y s2).bind fun z s3 => match z with
  | .bl true => (fc δ s3).bind fun w s4 => op' y w s4
  | .bl false => .ok (.bl false) s3
  | _ => .stuck
theorem den_op1 {W : WX} {r : R2} {op : DOp} (ho : DenOp T r op) {x y : V} {dx dy : D} {H P : Hp} {ι : List Addr} {F : Hp} {δ : Env} {s : Sto} {σ : L2.St} {Q : VK} {G : VK} {k : D → Sto → Res D} (R : RelH T P ι F s H) (E : REnv T F ι δ σ) (rx : Rp T F ι dx x) (ry : Rp T F ι dy y)
    (post : Post T P (Rp T) Q (fun c H' => W (.ref (T.ca c)) none σ H') F ι ((op dx dy s).bind k))
    (hk : ∀ x y H1 ι1 F1 s1, Grow F ι F1 ι1 → RelH T P ι1 F1 s1 H1 → REnv T F1 ι1 δ σ → Rp T F1 ι1 x y → Post T P (Rp T) Q (fun c H' => W (.ref (T.ca c)) none σ H') F1 ι1 (k x s1) → G y H1) : r x y H G :=
  den_then (T := T) (W := W) (t := fun σ' H' Q' => ∀ (P' : Hp) ι' F' s', RelH T P' ι' F' s' H' → Rp T F' ι' dx x → Rp T F' ι' dy y → Post T P' (Rp T) Q' (fun c H' => W (.ref (T.ca c)) none σ H') F' ι' (op dx dy s') → r x y H' Q') (f := fun _ s' => op dx dy s')
    (fun σ' H' P' ι' F' δ' s' Q' R' E' post' P'' ι'' F'' s'' R'' a b c => ho _ _ _ _ _ _ _ _ _ _ _ R'' a b c) R E post hk P ι F s R rx ry (by
      cases e : op dx dy s with
      | ok a b => rw [e] at post; exact fun v H' ι' F' g R' r => hk a v H' ι' F' b g R' (E.mono g) r (post.mono g)
      | exc c b => rw [e] at post; exact post
      | stuck => rw [e] at post; exact post)
theorem den_chain {W : WX} {r r' : R2} {o o' : DOp} {ta tb tc : TE} {fa fb fc : DE} (ho : DenOp T r o) (ho' : DenOp T r' o') (d1 : DenG T (Rp T) W ta fa) (d2 : DenG T (Rp T) W tb fb) (d3 : DenG T (Rp T) W tc fc) : DenG T (Rp T) W (tChain r r' ta tb tc) (dChain o o' fa fb fc) := fun σ H P ι F δ s Q R E post => by
  show ta σ H _
  refine den_then d1 R E post fun x y H1 ι1 F1 s1 g1 R1 E1 r1 post1 => ?_
  refine den_then d2 R1 E1 post1 fun x2 y2 H2 ι2 F2 s2 g2 R2 E2 r2 post2 => ?_
  refine den_op1 ho R2 E2 (r1.mono g2) r2 post2 fun z w H3 ι3 F3 s3 g3 R3 E3 r3 post3 => ?_
  cases z with
  | bl b =>
    unfold Rp at r3
    refine ⟨b, r3, ?_⟩
    cases b with
    | true =>
      rw [if_pos rfl]
      refine den_then d3 R3 E3 post3 fun x4 y4 H4 ι4 F4 s4 g4 R4 E4 r4 post4 => ?_
      exact ho' _ _ _ _ _ _ _ _ _ _ _ R4 ((r2.mono g3).mono g4) r4 post4
    | false =>
      rw [if_neg Bool.false_ne_true]
      exact post3.here R3 (by unfold Rp; rfl)
  | _ => exact post3.elim
theorem d_chain {a b c : Expr} {pos : Pos} {op op' : CmpOp} {r r' : R2} {o o' : DOp} {fa fb fc : DE} (hr : ∀ pn xe, OpR (X.tr pn xe) (compareOp op) r) (hr' : ∀ pn xe, OpR (X.tr pn xe) (compareOp op') r') (ho : DenOp T r o) (ho' : DenOp T r' o')
    (ha : PDe T X a fa) (hb : PDe T X b fb) (hc : PDe T X c fc) (hm : lastMarks [op, op'] [b, c] = false := by with_unfolding_all rfl) : PDe T X (.Compare a [op, op'] [b, c] pos) (dChain o o' fa fb fc) := fun pn xe W tk => by
  obtain ⟨t1, p1, d1⟩ := ha pn xe W tk
  obtain ⟨t2, p2, d2⟩ := hb pn xe W tk
  obtain ⟨t3, p3, d3⟩ := hc pn xe W tk
  exact ⟨_, pe_chain (hr pn xe) (hr' pn xe) p1 p2 p3 hm, den_chain ho ho' d1 d2 d3⟩
theorem t_chain {a b c : Expr} {pos : Pos} {op op' : CmpOp} {r r' : R2} {o o' : DOp} {fa fb fc : DE} (hr : ∀ pn xe, OpR (X.tr pn xe) (compareOp op) r) (hr' : ∀ pn xe, OpR (X.tr pn xe) (compareOp op') r') (ho : DenOp T r o) (ho' : DenOp T r' o')
    (ha : PDe T X a fa) (hb : PDe T X b fb) (hc : PDe T X c fc) (hm : lastMarks [op, op'] [b, c] = false := by with_unfolding_all rfl) : PDt T X (.Compare a [op, op'] [b, c] pos) (tst (dChain o o' fa fb fc)) := fun pn xe W tk => by
  obtain ⟨t1, p1, d1⟩ := ha pn xe W tk
  obtain ⟨t2, p2, d2⟩ := hb pn xe W tk
  obtain ⟨t3, p3, d3⟩ := hc pn xe W tk
  exact ⟨_, pt_chain (hr pn xe) (hr' pn xe) p1 p2 p3 hm, den_tst (den_chain ho ho' d1 d2 d3)⟩

/-! ## and, or, not, if-expressions -/
def tAndD (f g : DT) : DT := fun δ s => (f δ s).bind fun b s1 => match b with
  | true => g δ s1
  | false => .ok false s1
def tOrD (f g : DT) : DT := fun δ s => (f δ s).bind fun b s1 => match b with
  | true => .ok true s1
  | false => g δ s1
def tNotD (f : DT) : DT := fun δ s => (f δ s).bind fun b s1 => .ok (!b) s1
def PDw (T : Tb) (X : Cx) (e : Expr) (f : DT) : Prop := ∀ pn xe W, Takes (X.tr pn xe) W → ∃ t, PW (X.tr pn xe) e t ∧ DenG T eqR W t f
theorem PDw.t {e : Expr} {f : DT} (h : PDw T X e f) : PDt T X e f := fun pn xe W tk => by
  obtain ⟨t, p, d⟩ := h pn xe W tk
  exact ⟨t, p.pt, d⟩
section
variable {a b : Expr} {rest : List Expr} {pos : Pos} {fa fb : DT}
theorem w_and1 (ha : PDt T X a fa) : PDw T X (.BoolOp .And [a] pos) fa := fun pn xe W tk => by
  obtain ⟨t, p, d⟩ := ha pn xe W tk
  exact ⟨t, pw_and1 p, d⟩
theorem w_or1 (ha : PDt T X a fa) : PDw T X (.BoolOp .Or [a] pos) fa := fun pn xe W tk => by
  obtain ⟨t, p, d⟩ := ha pn xe W tk
  exact ⟨t, pw_or1 p, d⟩
theorem w_and (ha : PDt T X a fa) (hb : PDw T X (.BoolOp .And (b :: rest) pos) fb) : PDw T X (.BoolOp .And (a :: b :: rest) pos) (tAndD fa fb) := fun pn xe W tk => by
  obtain ⟨t1, p1, d1⟩ := ha pn xe W tk
  obtain ⟨t2, p2, d2⟩ := hb pn xe W tk
  refine ⟨_, pw_and p1 p2, fun σ H P ι F δ s Q R E post => ?_⟩
  show t1 σ H _
  refine den_then d1 R E post fun x y H1 ι1 F1 s1 g1 R1 E1 r1 post1 => ?_
  cases r1
  cases x with
  | true =>
    rw [if_pos rfl]
    exact d2 _ _ _ _ _ _ _ _ R1 E1 post1
  | false =>
    rw [if_neg Bool.false_ne_true]
    exact post1.here R1 rfl
theorem w_or (ha : PDt T X a fa) (hb : PDw T X (.BoolOp .Or (b :: rest) pos) fb) : PDw T X (.BoolOp .Or (a :: b :: rest) pos) (tOrD fa fb) := fun pn xe W tk => by
  obtain ⟨t1, p1, d1⟩ := ha pn xe W tk
  obtain ⟨t2, p2, d2⟩ := hb pn xe W tk
  refine ⟨_, pw_or p1 p2, fun σ H P ι F δ s Q R E post => ?_⟩
  show t1 σ H _
  refine den_then d1 R E post fun x y H1 ι1 F1 s1 g1 R1 E1 r1 post1 => ?_
  cases r1
  cases x with
  | true =>
    rw [if_pos rfl]
    exact post1.here R1 rfl
  | false =>
    rw [if_neg Bool.false_ne_true]
    exact d2 _ _ _ _ _ _ _ _ R1 E1 post1
theorem t_not (ha : PDt T X a fa) : PDt T X (.UnaryOp .Not a pos) (tNotD fa) := fun pn xe W tk => by
  obtain ⟨t1, p1, d1⟩ := ha pn xe W tk
  refine ⟨_, pt_not p1, fun σ H P ι F δ s Q R E post => ?_⟩
  show t1 σ H _
  refine den_then d1 R E post fun x y H1 ι1 F1 s1 g1 R1 E1 r1 post1 => ?_
  cases r1
  exact post1.here R1 rfl
end
def dAndV (f g : DE) : DE := fun δ s => (f δ s).bind fun x s1 => match x with
  | .bl true => g δ s1
  | .bl false => .ok (.bl false) s1
  | _ => .stuck
def dOrV (f g : DE) : DE := fun δ s => (f δ s).bind fun x s1 => match x with
  | .bl true => .ok (.bl true) s1
  | .bl false => g δ s1
  | _ => .stuck
def dNotV (f : DE) : DE := fun δ s => (f δ s).bind fun x s1 => match x with
  | .bl b => .ok (.bl (!b)) s1
  | _ => .stuck
def dIfE (c : DT) (f g : DE) : DE := fun δ s => (c δ s).bind fun b s1 => match b with
  | true => f δ s1
  | false => g δ s1
section
variable {a b c : Expr} {rest : List Expr} {pos : Pos} {fa fb : DE} {fc : DT}
theorem d_one {op} (ha : PDe T X a fa) : PDe T X (.BoolOp op [a] pos) fa := fun pn xe W tk => by
  obtain ⟨t1, p1, d1⟩ := ha pn xe W tk
  exact ⟨_, pe_one p1, d1⟩
theorem d_and (ha : PDe T X a fa) (hb : PDe T X (.BoolOp .And (b :: rest) pos) fb) : PDe T X (.BoolOp .And (a :: b :: rest) pos) (dAndV fa fb) := fun pn xe W tk => by
  obtain ⟨t1, p1, d1⟩ := ha pn xe W tk
  obtain ⟨t2, p2, d2⟩ := hb pn xe W tk
  refine ⟨_, pe_and p1 p2, fun σ H P ι F δ s Q R E post => ?_⟩
  show t1 σ H _
  refine den_then d1 R E post fun x y H1 ι1 F1 s1 g1 R1 E1 r1 post1 => ?_
  cases x with
  | bl b =>
    unfold Rp at r1
    refine ⟨b, r1, ?_⟩
    cases b with
    | true =>
      rw [if_pos rfl]
      exact d2 _ _ _ _ _ _ _ _ R1 E1 post1
    | false =>
      rw [if_neg Bool.false_ne_true]
      exact post1.here R1 (by unfold Rp; rfl)
  | _ => exact post1.elim
theorem d_or (ha : PDe T X a fa) (hb : PDe T X (.BoolOp .Or (b :: rest) pos) fb) : PDe T X (.BoolOp .Or (a :: b :: rest) pos) (dOrV fa fb) := fun pn xe W tk => by
  obtain ⟨t1, p1, d1⟩ := ha pn xe W tk
  obtain ⟨t2, p2, d2⟩ := hb pn xe W tk
  refine ⟨_, pe_or p1 p2, fun σ H P ι F δ s Q R E post => ?_⟩
  show t1 σ H _
  refine den_then d1 R E post fun x y H1 ι1 F1 s1 g1 R1 E1 r1 post1 => ?_
  cases x with
  | bl b =>
    unfold Rp at r1
    refine ⟨b, r1, ?_⟩
    cases b with
    | true =>
      rw [if_pos rfl]
      exact post1.here R1 (by unfold Rp; rfl)
    | false =>
      rw [if_neg Bool.false_ne_true]
      exact d2 _ _ _ _ _ _ _ _ R1 E1 post1
  | _ => exact post1.elim
theorem d_not (ha : PDe T X a fa) : PDe T X (.UnaryOp .Not a pos) (dNotV fa) := fun pn xe W tk => by
  obtain ⟨t1, p1, d1⟩ := ha pn xe W tk
  refine ⟨_, pe_not p1, fun σ H P ι F δ s Q R E post => ?_⟩
  show t1 σ H _
  refine den_then d1 R E post fun x y H1 ι1 F1 s1 g1 R1 E1 r1 post1 => ?_
  cases x with
  | bl b =>
    unfold Rp at r1
    exact ⟨b, r1, post1.here R1 (by unfold Rp; rfl)⟩
  | _ => exact post1.elim
theorem d_ifE (hc : PDt T X c fc) (ha : PDe T X a fa) (hb : PDe T X b fb) : PDe T X (.IfExp c a b pos) (dIfE fc fa fb) := fun pn xe W tk => by
  obtain ⟨t0, p0, d0⟩ := hc pn xe W tk
  obtain ⟨t1, p1, d1⟩ := ha pn xe W tk
  obtain ⟨t2, p2, d2⟩ := hb pn xe W tk
  refine ⟨_, pe_ifExp p0 p1 p2, fun σ H P ι F δ s Q R E post => ?_⟩
  show t0 σ H _
  refine den_then d0 R E post fun x y H1 ι1 F1 s1 g1 R1 E1 r1 post1 => ?_
  cases r1
  cases x with
  | true =>
    rw [if_pos rfl]
    exact d1 _ _ _ _ _ _ _ _ R1 E1 post1
  | false =>
    rw [if_neg Bool.false_ne_true]
    exact d2 _ _ _ _ _ _ _ _ R1 E1 post1
end
end
end Mp
/-! # MpC -/
namespace Mp
open PySem PySem.Spec L2

def lim : Nat := 1000000
theorem lim_le {n : Nat} (h : n ≤ lim) : n ≤ sizeLine := Nat.le_trans h (by rw [sizeLine_eq]; decide)
theorem lim_lt {n : Nat} (h : n ≤ lim) : n < sizeLine := Nat.lt_of_le_of_lt h (by rw [sizeLine_eq]; decide)
/-! ## what stands for lists and tuples -/
def lsOf (s : Sto) : D → Option (List D)
  | .lst xs => some xs
  | .loc n => match s[n]? with
    | some (.lst xs) => some xs
    | _ => none
  | _ => none
/-- a list that is only read -/
def lqOf (s : Sto) : D → Option (List D)
  | .scr ns => some (ns.map D.int)
  | d => lsOf s d
section
variable {T : Tb} {P : Hp} {ι : List Addr} {F : Hp} {s : Sto} {H : Hp}
theorem ls_of (R : RelH T P ι F s H) {d : D} {v : V} {xs : List D} (r : Rp T F ι d v) (e : lsOf s d = some xs) : ∃ a vs, v = .ref a ∧ H a = some (.lst vs) ∧ Rps T F ι xs vs := by
  unfold lsOf at e
  cases d with
  | lst ys =>
    cases e
    unfold Rp at r
    obtain ⟨a, vs, h1, h2, h3⟩ := r
    exact ⟨a, vs, h1, R.sub _ _ h2, h3⟩
  | loc n =>
    unfold Rp at r
    obtain ⟨a, h1, h2⟩ := r
    dsimp only at e
    cases q : s[n]? with
    | none => rw [q] at e; cases e
    | some c =>
      rw [q] at e
      cases c with
      | lst ys =>
        cases e
        obtain ⟨_, vs, h3, h4⟩ := R.cell n _ a q h1
        exact ⟨a, vs, h2, h3, h4⟩
      | _ => cases e
  | _ => cases e
theorem rps_ints : ∀ (ns : List Int), Rps T F ι (ns.map D.int) (ns.map V.int)
  | [] => .nil
  | n :: r => .cons (by unfold Rp; rfl) (rps_ints r)
theorem lq_of (R : RelH T P ι F s H) {d : D} {v : V} {xs : List D} (r : Rp T F ι d v) (e : lqOf s d = some xs) : ∃ a vs, v = .ref a ∧ SqL T.K H a vs ∧ Rps T F ι xs vs := by
  cases d with
  | scr ns =>
    unfold lqOf at e
    cases e
    unfold Rp at r
    obtain ⟨a, h1, h2⟩ := r
    exact ⟨a, _, h1, sql_mono R.sub h2, rps_ints ns⟩
  | _ =>
    obtain ⟨a, vs, h1, h2, h3⟩ := ls_of R r (show lsOf s _ = some xs from e)
    exact ⟨a, vs, h1, SqL.of h2, h3⟩
theorem tp_of (R : RelH T P ι F s H) {xs : List D} {v : V} (r : Rp T F ι (.tup xs) v) : ∃ a vs, v = .ref a ∧ H a = some (.tup vs) ∧ F a = some (.tup vs) ∧ Rps T F ι xs vs := by
  unfold Rp at r
  obtain ⟨a, vs, h1, h2, h3⟩ := r
  exact ⟨a, vs, h1, R.sub _ _ h2, h2, h3⟩
end

/-! ## arithmetic, sums of texts, lists, tuples -/
def oAdd : DOp
  | .int a, .int b, s => .ok (.int (a + b)) s
  | .str a, .str b, s => if a.length + b.length ≤ lim then .ok (.str (a ++ b)) s else .stuck
  | .tup a, .tup b, s => if a ≠ [] ∧ a.length + b.length ≤ lim then .ok (.tup (a ++ b)) s else .stuck
  | x, y, s => match lsOf s x, lsOf s y with
    | some a, some b => if a.length + b.length ≤ lim then .ok (.lst (a ++ b)) s else .stuck
    | _, _ => .stuck
def orR (r r' : R2) : R2 := fun x y H Q => r x y H Q ∨ r' x y H Q
theorem OpR.or {X : Cx} {f : Value → Value → Sem Value} {r r' : R2} (h : OpR X f r) (h' : OpR X f r') : OpR X f (orR r r') := by
  intro pins s σ H x y v u Q I rx ry q
  rcases q with q | q
  · exact h pins s σ H x y v u Q I rx ry q
  · exact h' pins s σ H x y v u Q I rx ry q
def rAddS : R2 := fun x y H Q => ∃ i j, x = .str i ∧ y = .str j ∧ i.length + j.length ≤ sizeLine ∧ Q (.str (i ++ j)) H
def rAddA (K : PySem.W.Frag) : R2 := orR (rI0 fun i j => .int (i + j)) (orR rAddS (orR rCat (rCatT K)))
theorem op_addA {X : Cx} : OpR X (binaryOp .Add) (rAddA X.K) := OpR.or op_add (OpR.or op_add_str (OpR.or op_cat op_catT))
section
variable {T : Tb}
theorem do_add : DenOp T (rAddA T.K) oAdd := by
  intro x y dx dy H P ι F s Q E R rx ry post
  have gen : ∀ a b, lsOf s dx = some a → lsOf s dy = some b → Post T P (Rp T) Q E F ι (if a.length + b.length ≤ lim then .ok (.lst (a ++ b)) s else .stuck) → rAddA T.K x y H Q := by
    intro a b h1 h2 post
    obtain ⟨p, vs, rfl, e1, e2⟩ := ls_of R rx h1
    obtain ⟨q, us, rfl, e3, e4⟩ := ls_of R ry h2
    split at post
    · rename_i hl
      refine .inr (.inr (.inl ⟨p, q, vs, us, rfl, rfl, e1, e3, by rw [← e2.len, ← e4.len]; exact lim_le hl, fun l hl => ?_⟩))
      refine post.new R hl fun g => ?_
      unfold Rp
      exact ⟨l, _, rfl, upd_same, (e2.app e4).mono g⟩
    · exact post.elim
  unfold oAdd at post
  split at post
  · unfold Rp at rx ry
    exact .inl ⟨_, _, rx, ry, post.here R (by unfold Rp; rfl)⟩
  · unfold Rp at rx ry
    rename_i a b _
    split at post
    · rename_i hl
      refine .inr (.inl ⟨_, _, rx, ry, by rw [S_len, S_len]; exact lim_le hl, ?_⟩)
      rw [S_cat]
      exact post.here R (by unfold Rp; rfl)
    · exact post.elim
  · rename_i a b _
    split at post
    · rename_i hl
      obtain ⟨p, vs, rfl, e1, _, e2⟩ := tp_of R rx
      obtain ⟨q, us, rfl, e3, _, e4⟩ := tp_of R ry
      refine .inr (.inr (.inr ⟨p, q, vs, us, rfl, rfl, SqT.of e1, SqT.of e3, ?_, by rw [← e2.len, ← e4.len]; exact lim_le hl.2, fun z => ?_, fun _ l hl => ?_⟩))
      · intro z
        have := e2.len
        rw [z] at this
        exact hl.1 (List.length_eq_zero_iff.mp this)
      · have := e4.len
        rw [z] at this
        rw [List.length_eq_zero_iff.mp this] at post
        refine post.here R ?_
        rw [List.append_nil]
        exact rx
      · refine post.new R hl fun g => ?_
        unfold Rp
        exact ⟨l, _, rfl, upd_same, (e2.app e4).mono g⟩
    · exact post.elim
  · split at post
    · rename_i a b h1 h2
      exact gen a b h1 h2 post
    · exact post.elim
/-- whole numbers in, under a condition -/
def oInt (c : Int → Int → Bool) (g : Int → Int → Int) : DOp
  | .int a, .int b, s => if c a b = true then .ok (.int (g a b)) s else .stuck
  | _, _, _ => .stuck
theorem do_int {c : Int → Int → Bool} {C : Int → Int → Prop} {g : Int → Int → Int} (h : ∀ a b, c a b = true → C a b) : DenOp T (rI C fun i j => .int (g i j)) (oInt c g) := by
  intro x y dx dy H P ι F s Q E R rx ry post
  unfold oInt at post
  split at post
  · split at post
    · rename_i hc
      unfold Rp at rx ry
      exact ⟨_, _, rx, ry, h _ _ hc, post.here R (by unfold Rp; rfl)⟩
    · exact post.elim
  · exact post.elim
theorem do_int0 {g : Int → Int → Int} : DenOp T (rI0 fun i j => .int (g i j)) (oInt (fun _ _ => true) g) := by
  intro x y dx dy H P ι F s Q E R rx ry post
  unfold oInt at post
  split at post
  · rw [if_pos rfl] at post
    unfold Rp at rx ry
    exact ⟨_, _, rx, ry, post.here R (by unfold Rp; rfl)⟩
  · exact post.elim
abbrev oSub : DOp := oInt (fun _ _ => true) (· - ·)
def cMul (i j : Int) : Bool := (decide (-(2 ^ 64) < i) && decide (i < 2 ^ 64)) || (decide (-(2 ^ 64) < j) && decide (j < 2 ^ 64))
abbrev oMul : DOp := oInt cMul (· * ·)
abbrev oDiv : DOp := oInt (fun _ j => decide (0 < j) && decide (j < 1073741824)) (· / ·)
abbrev oMod : DOp := oInt (fun _ j => decide (0 < j)) (· % ·)
def cPow (i j : Int) : Bool := decide (0 ≤ j) && (decide (j ≤ 1000000) && decide (i.natAbs < 2 ^ 64))
abbrev oPow : DOp := oInt cPow (fun i j => i ^ j.toNat)
abbrev oShl : DOp := oInt cPow (fun i j => i * 2 ^ j.toNat)
abbrev oShr : DOp := oInt (fun _ j => decide (0 ≤ j)) (fun i j => i / 2 ^ j.toNat)
abbrev oAnd : DOp := oInt (fun _ _ => true) Builtin.bitAnd
abbrev oOr : DOp := oInt (fun _ _ => true) Builtin.bitOr
theorem do_sub : DenOp T (rI0 fun i j => .int (i - j)) oSub := do_int0
theorem do_mul : DenOp T (rI CMul fun i j => .int (i * j)) oMul := do_int fun a b h => by
  unfold cMul at h
  unfold CMul
  simp only [Bool.or_eq_true, Bool.and_eq_true, decide_eq_true_eq] at h
  exact h
theorem do_div : DenOp T (rI CDiv fun i j => .int (i / j)) oDiv := do_int fun a b h => by
  simp only [Bool.and_eq_true, decide_eq_true_eq] at h
  exact h
theorem do_mod : DenOp T (rI (fun _ j => 0 < j) fun i j => .int (i % j)) oMod := do_int fun a b h => of_decide_eq_true h
theorem cPow_ok {a b : Int} (h : cPow a b = true) : CPow a b := by
  unfold cPow at h
  simp only [Bool.and_eq_true, decide_eq_true_eq] at h
  exact h
theorem do_pow : DenOp T (rI CPow fun i j => .int (i ^ j.toNat)) oPow := do_int fun a b h => cPow_ok h
theorem do_shl : DenOp T (rI CPow fun i j => .int (i * 2 ^ j.toNat)) oShl := do_int fun a b h => cPow_ok h
theorem do_shr : DenOp T (rI (fun _ j => 0 ≤ j) fun i j => .int (i / 2 ^ j.toNat)) oShr := do_int fun a b h => of_decide_eq_true h
theorem do_and : DenOp T (rI0 fun i j => .int (Builtin.bitAnd i j)) oAnd := do_int0
theorem do_or : DenOp T (rI0 fun i j => .int (Builtin.bitOr i j)) oOr := do_int0
/-! ## comparisons -/
def oCmp (g : Int → Int → Bool) : DOp
  | .int a, .int b, s => .ok (.bl (g a b)) s
  | _, _, _ => .stuck
theorem do_cmp {g : Int → Int → Bool} : DenOp T (rI0 fun i j => .bl (g i j)) (oCmp g) := by
  intro x y dx dy H P ι F s Q E R rx ry post
  unfold oCmp at post
  split at post
  · unfold Rp at rx ry
    exact ⟨_, _, rx, ry, post.here R (by unfold Rp; rfl)⟩
  · exact post.elim
abbrev oLt : DOp := oCmp fun i j => decide (i < j)
abbrev oLe : DOp := oCmp fun i j => decide (i ≤ j)
abbrev oGt : DOp := oCmp fun i j => decide (j < i)
abbrev oGe : DOp := oCmp fun i j => decide (j ≤ i)
mutual
def toP : D → Option PyData
  | .non => some .none
  | .bl b => some (.bool b)
  | .int i => some (.int i)
  | .str x => some (.str (S x))
  | .lst xs => (toPs xs).map .list
  | .tup xs => (toPs xs).map .tuple
  | .scr ns => some (.list (ns.map .int))
  | _ => none
def toPs : List D → Option (List PyData)
  | [] => some []
  | x :: xs => match toP x, toPs xs with
    | some p, some ps => some (p :: ps)
    | _, _ => none
end
theorem dp_ints {K : PySem.W.Frag} {H : Hp} : ∀ (ns : List Int), DpAll K H (ns.map V.int) (ns.map PyData.int)
  | [] => .nil
  | n :: r => .cons (.int n) (dp_ints r)
mutual
theorem dp_of {P : Hp} {ι : List Addr} {F : Hp} {s : Sto} {H : Hp} (R : RelH T P ι F s H) : ∀ {d : D} {v : V} {p : PyData}, Rp T F ι d v → toP d = some p → Dp T.K H v p
  | .non, v, p, r, e => by unfold Rp at r; subst r; cases e; exact .non
  | .bl _, v, p, r, e => by unfold Rp at r; subst r; cases e; exact .bl _
  | .int _, v, p, r, e => by unfold Rp at r; subst r; cases e; exact .int _
  | .str _, v, p, r, e => by unfold Rp at r; subst r; cases e; exact .str _
  | .scr ns, v, p, r, e => by
    unfold Rp at r
    obtain ⟨a, rfl, q⟩ := r
    cases e
    exact .lst (sql_mono R.sub q) (dp_ints ns)
  | .lst xs, v, p, r, e => by
    unfold Rp at r
    obtain ⟨a, vs, rfl, q, r⟩ := r
    unfold toP at e
    cases h : toPs xs with
    | none => rw [h] at e; cases e
    | some ps => rw [h] at e; cases e; exact .lst (SqL.of (R.sub _ _ q)) (dps_of R r h)
  | .tup xs, v, p, r, e => by
    unfold Rp at r
    obtain ⟨a, vs, rfl, q, r⟩ := r
    unfold toP at e
    cases h : toPs xs with
    | none => rw [h] at e; cases e
    | some ps => rw [h] at e; cases e; exact .tup (SqT.of (R.sub _ _ q)) (dps_of R r h)
  | .dct _ _, v, p, r, e => by cases e
  | .obj _ _ _, v, p, r, e => by cases e
  | .loc _, v, p, r, e => by cases e
  | .exc _, v, p, r, e => by cases e
  | .cls _, v, p, r, e => by cases e
  | .ty _, v, p, r, e => by cases e
theorem dps_of {P : Hp} {ι : List Addr} {F : Hp} {s : Sto} {H : Hp} (R : RelH T P ι F s H) : ∀ {ds : List D} {vs : List V} {ps : List PyData}, Rps T F ι ds vs → toPs ds = some ps → DpAll T.K H vs ps
  | [], vs, ps, r, e => by unfold Rps at r; subst r; cases e; exact .nil
  | x :: xs, vs, ps, r, e => by
    unfold Rps at r
    obtain ⟨v, us, rfl, r1, r2⟩ := r
    unfold toPs at e
    cases h1 : toP x with
    | none => rw [h1] at e; cases e
    | some p =>
      cases h2 : toPs xs with
      | none => rw [h1, h2] at e; cases e
      | some qs => rw [h1, h2] at e; cases e; exact .cons (dp_of R r1 h1) (dps_of R r2 h2)
end
def toPc (s : Sto) (d : D) : Option PyData := match lsOf s d with
  | some xs => (toPs xs).map .list
  | none => toP d
theorem dpc_of {P : Hp} {ι : List Addr} {F : Hp} {s : Sto} {H : Hp} (R : RelH T P ι F s H) {d : D} {v : V} {p : PyData} (r : Rp T F ι d v) (e : toPc s d = some p) : Dp T.K H v p := by
  unfold toPc at e
  cases h : lsOf s d with
  | none => rw [h] at e; exact dp_of R r e
  | some xs =>
    rw [h] at e
    dsimp only at e
    obtain ⟨a, vs, rfl, q, r⟩ := ls_of R r h
    cases h2 : toPs xs with
    | none => rw [h2] at e; cases e
    | some ps => rw [h2] at e; cases e; exact .lst (SqL.of q) (dps_of R r h2)
/-- ==, and its contrary -/
def scD : D → D → Option Bool
  | .int a, .int b => some (a == b)
  | .str a, .str b => some (a == b)
  | .bl a, .bl b => some (a == b)
  | .non, .non => some true
  | .non, .int _ | .non, .str _ | .non, .bl _ | .int _, .non | .str _, .non | .bl _, .non => some false
  | .int _, .str _ | .str _, .int _ | .bl _, .str _ | .str _, .bl _ => some false
  | _, _ => none
def oEqG (neg : Bool) : DOp := fun x y s => match scD x y with
  | some b => .ok (.bl (neg != b)) s
  | none => match toPc s x, toPc s y with
    | some p, some q => if (SeqAt.shaped p && SeqAt.shaped q) = true then .ok (.bl (neg != PyData.eqv p q)) s else .stuck
    | _, _ => .stuck
abbrev oEq : DOp := oEqG false
abbrev oNe : DOp := oEqG true
def rEqA (K : PySem.W.Frag) : R2 := orR rEq (rEqD K)
def rNeA (K : PySem.W.Frag) : R2 := orR rNe (rNeD K)
theorem op_eqA {X : Cx} (hu : X.A.units + 64 < cLine) : OpR X (compareOp .Eq) (rEqA X.K) := OpR.or op_eq (op_eqD hu)
theorem op_neA {X : Cx} (hu : X.A.units + 64 < cLine) : OpR X (compareOp .NotEq) (rNeA X.K) := OpR.or op_ne (op_neD hu)
theorem b1 (b : Bool) : (false != b) = b := by cases b <;> rfl
theorem b2 (b : Bool) : (true != b) = !b := by cases b <;> rfl
theorem beq_dec {α : Type} [BEq α] [LawfulBEq α] [DecidableEq α] (a b : α) : (a == b) = decide (a = b) := by
  by_cases h : a = b
  · rw [decide_eq_true h]; exact beq_iff_eq.mpr h
  · rw [decide_eq_false h]; exact beq_eq_false_iff_ne.mpr h
theorem dec_i {a b : Int} : decide (V.int a = V.int b) = (a == b) := by
  rw [beq_dec]; exact decide_eq_decide.mpr ⟨fun h => by injection h, fun h => by rw [h]⟩
theorem dec_s {a b : List Nat} : decide (V.str (S a) = V.str (S b)) = (a == b) := by
  rw [beq_dec]; exact decide_eq_decide.mpr ⟨fun h => by injection h with h; exact S_inj h, fun h => by rw [h]⟩
theorem dec_b {a b : Bool} : decide (V.bl a = V.bl b) = (a == b) := by cases a <;> cases b <;> rfl
theorem scD_ok {F : Hp} {ι : List Addr} {d e : D} {v u : V} {b : Bool} (r : Rp T F ι d v) (q : Rp T F ι e u) (h : scD d e = some b) : scal v u = true ∧ decide (v = u) = b := by
  unfold scD at h
  split at h
  all_goals first | cases h | skip
  all_goals
    unfold Rp at r q
    subst r q
    first | exact ⟨rfl, dec_i⟩ | exact ⟨rfl, dec_s⟩ | exact ⟨rfl, dec_b⟩ | exact ⟨rfl, rfl⟩
theorem do_eq : DenOp T (rEqA T.K) oEq := by
  intro x y dx dy H P ι F s Q E R rx ry post
  unfold oEq oEqG at post
  split at post
  · rename_i b hb
    obtain ⟨h1, h2⟩ := scD_ok rx ry hb
    exact .inl ⟨h1, post.here R (by unfold Rp; rw [b1, h2])⟩
  · split at post
    · rename_i p q h1 h2
      split at post
      · rename_i hs
        simp only [Bool.and_eq_true] at hs
        exact .inr ⟨p, q, dpc_of R rx h1, dpc_of R ry h2, hs.1, hs.2, post.here R (by unfold Rp; rw [b1])⟩
      · exact post.elim
    · exact post.elim
theorem do_ne : DenOp T (rNeA T.K) oNe := by
  intro x y dx dy H P ι F s Q E R rx ry post
  unfold oNe oEqG at post
  split at post
  · rename_i b hb
    obtain ⟨h1, h2⟩ := scD_ok rx ry hb
    exact .inl ⟨h1, post.here R (by unfold Rp; rw [b2, h2])⟩
  · split at post
    · rename_i p q h1 h2
      split at post
      · rename_i hs
        simp only [Bool.and_eq_true] at hs
        exact .inr ⟨p, q, dpc_of R rx h1, dpc_of R ry h2, hs.1, hs.2, post.here R (by unfold Rp; rw [b2])⟩
      · exact post.elim
    · exact post.elim
/-- is None, is not None -/
def isNon : D → Bool
  | .non => true
  | _ => false
theorem isNon_ok {F : Hp} {ι : List Addr} {d : D} {v : V} (r : Rp T F ι d v) : decide (v = .non) = isNon d := by
  cases d with
  | non => unfold Rp at r; subst r; rfl
  | tup _ => unfold Rp at r; obtain ⟨_, _, rfl, _⟩ := r; rfl
  | lst _ => unfold Rp at r; obtain ⟨_, _, rfl, _⟩ := r; rfl
  | scr _ => unfold Rp at r; obtain ⟨_, rfl, _⟩ := r; rfl
  | dct _ _ => unfold Rp at r; obtain ⟨_, _, rfl, _⟩ := r; rfl
  | obj _ _ _ => unfold Rp at r; obtain ⟨_, _, _, rfl, _⟩ := r; rfl
  | loc _ => unfold Rp at r; obtain ⟨_, _, rfl⟩ := r; rfl
  | exc _ => unfold Rp at r; obtain ⟨_, rfl, _⟩ := r; rfl
  | fn _ _ _ _ _ => unfold Rp at r; obtain ⟨rfl, _⟩ := r; rfl
  | _ => unfold Rp at r; subst r; rfl
def oIs (neg : Bool) : DOp
  | x, .non, s => .ok (.bl (neg != isNon x)) s
  | _, _, _ => .stuck
def rIsN : R2 := fun x y H Q => y = .non ∧ Q (.bl (decide (x = .non))) H
def rNotN : R2 := fun x y H Q => y = .non ∧ Q (.bl (!decide (x = .non))) H
theorem do_is : DenOp T rIsN (oIs false) := by
  intro x y dx dy H P ι F s Q E R rx ry post
  unfold oIs at post
  split at post
  · refine ⟨by unfold Rp at ry; exact ry, post.here R ?_⟩
    unfold Rp; rw [b1, isNon_ok rx]
  · exact post.elim
theorem do_isnot : DenOp T rNotN (oIs true) := by
  intro x y dx dy H P ι F s Q E R rx ry post
  unfold oIs at post
  split at post
  · refine ⟨by unfold Rp at ry; exact ry, post.here R ?_⟩
    unfold Rp; rw [b2, isNon_ok rx]
  · exact post.elim
/-! ## in a list or tuple of flat things; in a text -/
def flatD : D → Bool
  | .non | .bl _ | .int _ | .str _ => true
  | _ => false
def eqF : D → D → Bool
  | .non, .non => true
  | .bl a, .bl b => a == b
  | .bl a, .int b => (if a then 1 else 0) == b
  | .int a, .bl b => a == (if b then 1 else 0)
  | .int a, .int b => a == b
  | .str a, .str b => a == b
  | _, _ => false
def tpOf : D → Option (List D)
  | .tup xs => some xs
  | _ => none
/-- x in xs -/
def oIn (neg : Bool) : DOp := fun x y s => match (lqOf s y).or (tpOf y) with
  | some xs => if (flatD x && xs.all flatD) = true then .ok (.bl (neg != xs.any fun y => eqF y x)) s else .stuck
  | none => .stuck
theorem flat_ok {F : Hp} {ι : List Addr} {d : D} {v : V} (r : Rp T F ι d v) (h : flatD d = true) : flatV v = true := by
  cases d <;> first | (unfold Rp at r; subst r; rfl) | cases h
theorem eqF_ok {F : Hp} {ι : List Addr} {d e : D} {v u : V} (r : Rp T F ι d v) (q : Rp T F ι e u) (h : flatD d = true) (k : flatD e = true) : eqV v u = eqF d e := by
  cases d <;> first | cases h | skip
  all_goals
    cases e <;> first | cases k | skip
    all_goals
      unfold Rp at r q
      subst r q
      first
        | rfl
        | (rename_i p q
           show (S p == S q) = (p == q)
           rw [beq_dec, beq_dec]
           exact decide_eq_decide.mpr ⟨fun h => S_inj h, fun h => by rw [h]⟩)
theorem in_ok {F : Hp} {ι : List Addr} {x : D} {v : V} (r : Rp T F ι x v) (h : flatD x = true) : ∀ {ds : List D} {vs : List V}, Rps T F ι ds vs → ds.all flatD = true → vs.all flatV = true ∧ (vs.any fun y => eqV y v) = ds.any fun y => eqF y x
  | [], vs, q, _ => by unfold Rps at q; subst q; exact ⟨rfl, rfl⟩
  | d :: ds, vs, q, k => by
    unfold Rps at q
    obtain ⟨u, us, rfl, q1, q2⟩ := q
    rw [List.all_cons, Bool.and_eq_true] at k
    obtain ⟨i1, i2⟩ := in_ok r h q2 k.2
    refine ⟨by rw [List.all_cons, flat_ok q1 k.1, i1]; rfl, ?_⟩
    rw [List.any_cons, List.any_cons, eqF_ok q1 r k.1 h, i2]
theorem lqtp_of {P : Hp} {ι : List Addr} {F : Hp} {s : Sto} {H : Hp} (R : RelH T P ι F s H) {d : D} {v : V} {xs : List D} (r : Rp T F ι d v) (e : (lqOf s d).or (tpOf d) = some xs) : ∃ a vs, v = .ref a ∧ (SqL T.K H a vs ∨ SqT T.K H a vs) ∧ Rps T F ι xs vs := by
  cases h : lqOf s d with
  | some ys =>
    rw [h] at e
    cases e
    obtain ⟨a, vs, h1, h2, h3⟩ := lq_of R r h
    exact ⟨a, vs, h1, .inl h2, h3⟩
  | none =>
    rw [h] at e
    cases d with
    | tup ys =>
      cases e
      obtain ⟨a, vs, h1, h2, _, h3⟩ := tp_of R r
      exact ⟨a, vs, h1, .inr (SqT.of h2), h3⟩
    | _ => cases e
theorem do_in {neg : Bool} : DenOp T (rIn T.K neg) (oIn neg) := by
  intro x y dx dy H P ι F s Q E R rx ry post
  unfold oIn at post
  split at post
  · rename_i xs h
    obtain ⟨a, vs, rfl, h2, h3⟩ := lqtp_of R ry h
    split at post
    · rename_i hf
      simp only [Bool.and_eq_true] at hf
      obtain ⟨i1, i2⟩ := in_ok rx hf.1 h3 hf.2
      refine ⟨a, vs, rfl, h2, flat_ok rx hf.1, i1, post.here R ?_⟩
      unfold Rp inV
      rw [i2]
      cases neg <;> simp
    · exact post.elim
  · exact post.elim
/-- one sign in a text -/
def oInS (neg : Bool) : DOp
  | .str [c], .str z, s => .ok (.bl (neg != decide (c ∈ z))) s
  | _, _, _ => .stuck
def rInS : R2 := fun x y H Q => ∃ (c : Nat) (z : Str), x = .str ⟨#[c]⟩ ∧ y = .str z ∧ Q (.bl (decide (c ∈ z.cps.toList))) H
def rNotInS : R2 := fun x y H Q => ∃ (c : Nat) (z : Str), x = .str ⟨#[c]⟩ ∧ y = .str z ∧ Q (.bl (!decide (c ∈ z.cps.toList))) H
theorem do_inS : DenOp T rInS (oInS false) := by
  intro x y dx dy H P ι F s Q E R rx ry post
  unfold oInS at post
  split at post
  · unfold Rp at rx ry
    exact ⟨_, _, rx, ry, post.here R (by unfold Rp; rw [b1]; exact congrArg V.bl (decide_eq_decide.mpr (by simp [S])))⟩
  · exact post.elim
theorem do_notInS : DenOp T rNotInS (oInS true) := by
  intro x y dx dy H P ι F s Q E R rx ry post
  unfold oInS at post
  split at post
  · unfold Rp at rx ry
    exact ⟨_, _, rx, ry, post.here R (by unfold Rp; rw [b2]; exact congrArg V.bl (congrArg Bool.not (decide_eq_decide.mpr (by simp [S]))))⟩
  · exact post.elim
/-! ## subscripts -/
theorem at_ok {F : Hp} {ι : List Addr} {ds : List D} {vs : List V} {i : Int} {d : D} (r : Rps T F ι ds vs) (h : atI ds i = some d) : ∃ v, atI vs i = some v ∧ Rp T F ι d v := by
  unfold atI at h ⊢
  rw [← r.len]
  cases e : ixN ds.length i with
  | none => rw [e] at h; cases h
  | some j =>
    rw [e] at h
    exact r.get h
def oIx : DOp
  | .str z, .int i, s => if z.length ≤ lim then match atI z i with
    | some c => .ok (.str [c]) s
    | none => .stuck
    else .stuck
  | x, .int i, s => match (lqOf s x).or (tpOf x) with
    | some xs => match atI xs i with
      | some d => .ok d s
      | none => .stuck
    | none => .stuck
  | _, _, _ => .stuck
theorem do_ix : DenOp T (rIx T.K) oIx := by
  intro x y dx dy H P ι F s Q E R rx ry post
  unfold oIx at post
  split at post
  · split at post
    · rename_i hl
      split at post
      · rename_i c hc
        unfold Rp at rx ry
        refine .inr (.inr ⟨S _, _, c, rx, ry, by rw [S_len]; exact lim_le hl, ?_, post.here R (by unfold Rp; rfl)⟩)
        simpa [S] using hc
      · exact post.elim
    · exact post.elim
  · split at post
    · rename_i xs h
      split at post
      · rename_i d hd
        unfold Rp at ry
        obtain ⟨a, vs, rfl, h2, h3⟩ := lqtp_of R rx h
        obtain ⟨v, h4, h5⟩ := at_ok h3 hd
        rcases h2 with h2 | h2
        · exact .inl ⟨a, vs, _, v, rfl, ry, h2, h4, post.here R h5⟩
        · exact .inr (.inl ⟨a, vs, _, v, rfl, ry, h2, h4, post.here R h5⟩)
      · exact post.elim
    · exact post.elim
  · exact post.elim
theorem d_ix {X : Cx} {a b : Expr} {pos : Pos} {fa fb : DE} (ha : PDe T X a fa) (hb : PDe T X b fb) (hs : PlainIx b := by exact fun _ _ => rfl) (hK : X.K = T.K := by rfl) : PDe T X (.Subscript a b pos) (dOp oIx fa fb) := fun pn xe W tk => by
  obtain ⟨t1, p1, d1⟩ := ha pn xe W tk
  obtain ⟨t2, p2, d2⟩ := hb pn xe W tk
  exact ⟨_, pe_ix (X := X.tr pn xe) ix_seq p1 p2 hs, den_op (by show DenOp T (rIx X.K) oIx; rw [hK]; exact do_ix) d1 d2⟩
/-! ## slices -/
def cutL {α : Type} (xs : List α) (lo hi : Option Int) : List α := (xs.drop (HT.sIx xs.length 0 lo)).take (HT.sIx xs.length xs.length hi - HT.sIx xs.length 0 lo)
theorem cut_ok {F : Hp} {ι : List Addr} {ds : List D} {vs : List V} (r : Rps T F ι ds vs) (lo hi : Option Int) : Rps T F ι (cutL ds lo hi) (cutV vs lo hi) := by
  unfold cutL cutV
  rw [← r.len]
  exact (r.drop _).take _
abbrev DOI := Env → Sto → Res (Option Int)
def pNone : DOI := fun _ s => .ok none s
def pSome (f : DE) : DOI := fun δ s => (f δ s).bind fun x s1 => match x with
  | .int i => .ok (some i) s1
  | _ => .stuck
def PDo (T : Tb) (X : Cx) (e : Option Expr) (f : DOI) : Prop := ∀ pn xe W, Takes (X.tr pn xe) W → ∃ t, PO (X.tr pn xe) e t ∧ DenG T eqR W t f
theorem o_none {X : Cx} : PDo T X none pNone := fun pn xe W _ => ⟨_, po_none, fun _ _ _ _ _ _ _ _ R _ post => post.here R rfl⟩
theorem o_some {X : Cx} {e : Expr} {f : DE} (h : PDe T X e f) : PDo T X (some e) (pSome f) := fun pn xe W tk => by
  obtain ⟨t1, p1, d1⟩ := h pn xe W tk
  refine ⟨_, po_some p1, fun σ H P ι F δ s Q R E post => ?_⟩
  show t1 σ H _
  refine den_then d1 R E post fun x y H1 ι1 F1 s1 g1 R1 E1 r1 post1 => ?_
  cases x with
  | int i =>
    unfold Rp at r1
    exact ⟨i, r1, post1.here R1 rfl⟩
  | _ => exact post1.elim
def oSl (x : D) (lo hi : Option Int) (s : Sto) : Res D := match x with
  | .str z => if z.length ≤ lim then .ok (.str (cutL z lo hi)) s else .stuck
  | .tup xs => if HT.sIx xs.length 0 lo = 0 ∧ HT.sIx xs.length xs.length hi = xs.length then .stuck else .ok (.tup (cutL xs lo hi)) s
  | x => match lqOf s x with
    | some xs => .ok (.lst (cutL xs lo hi)) s
    | none => .stuck
def dSl (f : DE) (lo hi : DOI) : DE := fun δ s => (f δ s).bind fun x s1 => (lo δ s1).bind fun l s2 => (hi δ s2).bind fun u s3 => oSl x l u s3
theorem d_sl {X : Cx} {e : Expr} {lo hi : Option Expr} {p2 pos : Pos} {f : DE} {g h : DOI} (he : PDe T X e f) (hl : PDo T X lo g) (hh : PDo T X hi h) (hK : X.K = T.K := by rfl) : PDe T X (.Subscript e (.Slice lo hi none p2) pos) (dSl f g h) := fun pn xe W tk => by
  obtain ⟨t1, p1, d1⟩ := he pn xe W tk
  obtain ⟨t2, p2, d2⟩ := hl pn xe W tk
  obtain ⟨t3, p3, d3⟩ := hh pn xe W tk
  refine ⟨_, pe_slice (X := X.tr pn xe) (sl_list.or (sl_tup.or sl_str)) p1 p2 p3, fun σ H P ι F δ s Q R E post => ?_⟩
  show t1 σ H _
  refine den_then d1 R E post fun x y H1 ι1 F1 s1 g1 R1 E1 r1 post1 => ?_
  refine den_then d2 R1 E1 post1 fun l l' H2 ι2 F2 s2 g2 R2 E2 r2 post2 => ?_
  refine den_then d3 R2 E2 post2 fun u u' H3 ι3 F3 s3 g3 R3 E3 r3 post3 => ?_
  cases r2
  cases r3
  have rx := (r1.mono g2).mono g3
  have hK' : (X.tr pn xe).K = T.K := hK
  rw [hK']
  unfold oSl at post3
  split at post3
  · rename_i z
    split at post3
    · rename_i hz
      unfold Rp at rx
      refine .inr (.inr ⟨S z, rx, by rw [S_len]; exact lim_le hz, post3.here R3 ?_⟩)
      unfold Rp cutS cutL
      simp [S, Str.length]
    · exact post3.elim
  · rename_i xs
    split at post3
    · exact post3.elim
    · rename_i hw
      obtain ⟨a, vs, rfl, h2, _, h3⟩ := tp_of R3 rx
      refine .inr (.inl ⟨a, vs, rfl, SqT.of h2, by rw [← h3.len]; exact hw, fun p hp => ?_⟩)
      refine post3.new R3 hp fun g => ?_
      unfold Rp
      exact ⟨p, _, rfl, upd_same, (cut_ok h3 l u).mono g⟩
  · split at post3
    · rename_i xs h
      obtain ⟨a, vs, rfl, h2, h3⟩ := lq_of R3 rx h
      refine .inl ⟨a, vs, rfl, h2, fun p hp => ?_⟩
      refine post3.new R3 hp fun g => ?_
      unfold Rp
      exact ⟨p, _, rfl, upd_same, (cut_ok h3 l u).mono g⟩
    · exact post3.elim
/-! ## displays -/
def dTup (f : DA) : DE := fun δ s => (f δ s).bind fun xs s1 => if xs.length ≤ lim then .ok (.tup xs) s1 else .stuck
def dLst (f : DA) : DE := fun δ s => (f δ s).bind fun xs s1 => if xs.length ≤ lim then .ok (.lst xs) s1 else .stuck
theorem d_tup {X : Cx} {es : List Expr} {x1 : Nat} {pos : Pos} {f : DA} (h : PDa T X es f) : PDe T X (.Tuple es x1 pos) (dTup f) := fun pn xe W tk => by
  obtain ⟨t1, p1, d1⟩ := h pn xe W tk
  refine ⟨_, pe_tup p1, fun σ H P ι F δ s Q R E post => ?_⟩
  show t1 σ H _
  refine den_then d1 R E post fun x y H1 ι1 F1 s1 g1 R1 E1 r1 post1 => ?_
  split at post1
  · rename_i hl
    refine ⟨by rw [← r1.1.len]; exact lim_le hl, fun p hp => post1.new R1 hp fun g => ?_⟩
    unfold Rp
    exact ⟨p, _, rfl, upd_same, r1.1.mono g⟩
  · exact post1.elim
theorem d_lst {X : Cx} {es : List Expr} {pos : Pos} {f : DA} (h : PDa T X es f) : PDe T X (.List es pos) (dLst f) := fun pn xe W tk => by
  obtain ⟨t1, p1, d1⟩ := h pn xe W tk
  refine ⟨_, pe_lst p1, fun σ H P ι F δ s Q R E post => ?_⟩
  show t1 σ H _
  refine den_then d1 R E post fun x y H1 ι1 F1 s1 g1 R1 E1 r1 post1 => ?_
  split at post1
  · rename_i hl
    refine ⟨by rw [← r1.1.len]; exact lim_le hl, fun p hp => post1.new R1 hp fun g => ?_⟩
    unfold Rp
    exact ⟨p, _, rfl, upd_same, r1.1.mono g⟩
  · exact post1.elim
/-! ## unary minus -/
def dUn (g : Int → Int) (f : DE) : DE := fun δ s => (f δ s).bind fun x s1 => match x with
  | .int i => .ok (.int (g i)) s1
  | _ => .stuck
theorem d_neg {X : Cx} {a : Expr} {pos : Pos} {f : DE} (h : PDe T X a f) : PDe T X (.UnaryOp .USub a pos) (dUn (fun i => -i) f) := fun pn xe W tk => by
  obtain ⟨t1, p1, d1⟩ := h pn xe W tk
  refine ⟨_, pe_un un_neg p1, fun σ H P ι F δ s Q R E post => ?_⟩
  show t1 σ H _
  refine den_then d1 R E post fun x y H1 ι1 F1 s1 g1 R1 E1 r1 post1 => ?_
  cases x with
  | int i =>
    unfold Rp at r1
    exact ⟨i, r1, post1.here R1 (by unfold Rp; rfl)⟩
  | _ => exact post1.elim
end
end Mp
/-! # MpD -/
namespace Mp
open PySem PySem.Spec L2

/-! ## statements -/
inductive Out where
  | nx (δ : Env) (s : Sto) | rt (d : D) (s : Sto) | bk (δ : Env) (s : Sto) | ct (δ : Env) (s : Sto) | ex (c : Nat) (δ : Env) (s : Sto) | stuck
abbrev DS := Env → Sto → Out
def PostS (T : Tb) (P : Hp) (En : Ends) (W : WX) (F : Hp) (ι : List Addr) : Out → Prop
  | .nx δ' s' => ∀ σ' H' ι' F', Grow F ι F' ι' → RelH T P ι' F' s' H' → REnv T F' ι' δ' σ' → En.nx σ' H'
  | .bk δ' s' => ∀ σ' H' ι' F', Grow F ι F' ι' → RelH T P ι' F' s' H' → REnv T F' ι' δ' σ' → En.bk σ' H'
  | .ct δ' s' => ∀ σ' H' ι' F', Grow F ι F' ι' → RelH T P ι' F' s' H' → REnv T F' ι' δ' σ' → En.ct σ' H'
  | .rt d s' => ∀ v H' ι' F', Grow F ι F' ι' → RelH T P ι' F' s' H' → Rp T F' ι' d v → En.rt v H'
  | .ex c δ' s' => ∀ σ' H' ι' F', Grow F ι F' ι' → RelH T P ι' F' s' H' → REnv T F' ι' δ' σ' → W (.ref (T.ca c)) none σ' H'
  | .stuck => False
theorem PostS.mono {T : Tb} {P : Hp} {En : Ends} {W : WX} {F F1 : Hp} {ι ι1 : List Addr} {r : Out} (g : Grow F ι F1 ι1) (h : PostS T P En W F ι r) : PostS T P En W F1 ι1 r := by
  cases r with
  | stuck => exact h
  | _ => exact fun v H' ι' F' g' => h v H' ι' F' (g.trans g')
def DenS (T : Tb) (W : WX) (t : TS) (g : DS) : Prop := ∀ En σ H P ι F δ s, RelH T P ι F s H → REnv T F ι δ σ → PostS T P En W F ι (g δ s) → t En σ H
def PDs (T : Tb) (X : Cx) (st : Stmt) (g : DS) : Prop := ∀ pn xe W, Takes (X.tr pn xe) W → PassesOwn (model X.prog X.w) X.A X.env xe → ∃ t, PS (X.tr pn xe) st t ∧ DenS T W t g
def PDb (T : Tb) (X : Cx) (st : List Stmt) (g : DS) : Prop := ∀ pn xe W, Takes (X.tr pn xe) W → PassesOwn (model X.prog X.w) X.A X.env xe → ∃ t, PSs (X.tr pn xe) st t ∧ DenS T W t g
/-- a value, then a statement's end -/
def Res.out {α : Type} (δ : Env) : Res α → (α → Sto → Out) → Out
  | .ok a s, k => k a s
  | .exc c s, _ => .ex c δ s
  | .stuck, _ => .stuck
theorem dens_then {α β : Type} {T : Tb} {R1 : Hp → List Addr → α → β → Prop} {W : WX} {t : L2.St → Hp → (β → Hp → Prop) → Prop} {f : Env → Sto → Res α} {k : α → Sto → Out}
    {σ : L2.St} {H P : Hp} {ι : List Addr} {F : Hp} {δ : Env} {s : Sto} {En : Ends} {G : β → Hp → Prop} (h1 : DenG T R1 W t f) (R : RelH T P ι F s H) (E : REnv T F ι δ σ)
    (post : PostS T P En W F ι ((f δ s).out δ k))
    (hk : ∀ x y H1 ι1 F1 s1, Grow F ι F1 ι1 → RelH T P ι1 F1 s1 H1 → REnv T F1 ι1 δ σ → R1 F1 ι1 x y → PostS T P En W F1 ι1 (k x s1) → G y H1) : t σ H G := by
  refine h1 σ H P ι F δ s G R E ?_
  cases e : f δ s with
  | ok x s1 =>
    rw [e] at post
    exact fun v H' ι' F' g R' r => hk x v H' ι' F' s1 g R' (E.mono g) r (post.mono g)
  | exc c s1 =>
    rw [e] at post
    exact fun H' ι' F' g R' => post σ H' ι' F' g R' (E.mono g)
  | stuck =>
    rw [e] at post
    exact post
/-! ## targets -/
abbrev DTg := D → Env → Option Env
def tgN (i : Nat) : DTg := fun d δ => some (δ.set i (some d))
def tgs : List DTg → List D → Env → Option Env
  | [], [], δ => some δ
  | t :: ts, d :: ds, δ => (t d δ).bind fun δ1 => tgs ts ds δ1
  | _, _, _ => none
def tgT (ts : List DTg) : DTg := fun d δ => match d with
  | .tup xs => tgs ts xs δ
  | _ => none
/-- apart from the slots ws they are the same -/
def Off (ws : List Nat) (σ σ' : L2.St) : Prop := σ'.length = σ.length ∧ ∀ j, j ∉ ws → σ'[j]? = σ[j]?
def DenT (T : Tb) (ws : List Nat) (g : TG) (f : DTg) : Prop := ∀ σ H P ι F δ δ' s d v Q, RelH T P ι F s H → REnv T F ι δ σ → Rp T F ι d v → f d δ = some δ' → (∀ σ', REnv T F ι δ' σ' → Off ws σ σ' → Q σ' H) → g v σ H Q
def DenTs (T : Tb) (ws : List Nat) (g : TGs) (f : List DTg) : Prop := ∀ σ H P ι F δ δ' s ds vs Q, RelH T P ι F s H → REnv T F ι δ σ → Rps T F ι ds vs → tgs f ds δ = some δ' → (∀ σ', REnv T F ι δ' σ' → Off ws σ σ' → Q σ' H) → g vs σ H Q
def PDg (T : Tb) (X : Cx) (tg : Expr) (ws : List Nat) (f : DTg) : Prop := ∀ pn xe, ∃ g, PG (X.tr pn xe) tg g ∧ DenT T ws g f
def PDgs (T : Tb) (X : Cx) (tg : List Expr) (ws : List Nat) (f : List DTg) : Prop := ∀ pn xe, ∃ g, PGs (X.tr pn xe) tg g ∧ DenTs T ws g f
theorem Off.refl (ws : List Nat) (σ : L2.St) : Off ws σ σ := ⟨rfl, fun _ _ => rfl⟩
theorem Off.set (σ : L2.St) (i : Nat) (o : Option V) : Off [i] σ (σ.set i o) := ⟨by simp, fun j hj => by rw [List.getElem?_set_ne (by intro h; exact hj (by simp [h]))]⟩
theorem Off.app {ws vs : List Nat} {a b c : L2.St} (h : Off ws a b) (k : Off vs b c) : Off (ws ++ vs) a c :=
  ⟨k.1.trans h.1, fun j hj => (k.2 j (fun z => hj (List.mem_append_right _ z))).trans (h.2 j (fun z => hj (List.mem_append_left _ z)))⟩
theorem wipe_at (σ : L2.St) (j : Nat) : ∀ vs : List Nat, (wipe σ vs)[j]? = if j ∈ vs ∧ j < σ.length then some none else σ[j]?
  | [] => by simp [wipe]
  | v :: vs => by
    unfold wipe
    rw [List.getElem?_set, wipe_length, wipe_at σ j vs]
    by_cases h : v = j
    · subst h
      by_cases hl : v < σ.length
      · simp [hl]
      · simp [hl, List.getElem?_eq_none (Nat.le_of_not_lt hl)]
    · have h' : ¬ j = v := fun z => h z.symm
      simp [h, h']
theorem Off.wipe {ws vs : List Nat} {σ σ' : L2.St} (h : Off ws σ σ') (hs : ∀ i ∈ ws, i ∈ vs) : L2.wipe σ' vs = L2.wipe σ vs := by
  refine List.ext_getElem? fun j => ?_
  rw [wipe_at, wipe_at, h.1]
  by_cases c : j ∈ vs ∧ j < σ.length
  · rw [if_pos c, if_pos c]
  · rw [if_neg c, if_neg c]
    by_cases hj : j ∈ ws
    · have hl : ¬ j < σ.length := fun z => c ⟨hs j hj, z⟩
      rw [List.getElem?_eq_none (Nat.le_of_not_lt hl), List.getElem?_eq_none (by rw [h.1]; exact Nat.le_of_not_lt hl)]
    · exact h.2 j hj
section
variable {T : Tb} {X : Cx}
theorem g_name {x : Str} {pos : Pos} (i : Nat) (hN : X.N.Nodup) (hi : X.N[i]? = some x := by rfl) (hx : Loc X.env.scope x := by first | exact Or.inl rfl | exact Or.inr rfl) (hf : X.fn x = true ∨ X.env.scope.names.lookup x = some .local := by first | exact .inl rfl | exact .inr rfl) : PDg T X (.Name x pos) [i] (tgN i) := fun pn xe =>
  ⟨_, pg_name (X := X.tr pn xe) hN hi hx hf, fun σ H P ι F δ δ' s d v Q R E r e k => by
    cases e
    exact k _ (E.set r i) (Off.set _ _ _)⟩
theorem gs_nil : PDgs T X [] [] [] := fun pn xe => ⟨_, pgs_nil, fun σ H P ι F δ δ' s ds vs Q R E r e k => by
    cases ds with
    | nil =>
      unfold Rps at r
      subst r
      cases e
      exact ⟨rfl, k _ E (Off.refl _ _)⟩
    | cons d ds => cases e⟩
theorem gs_cons {e : Expr} {es : List Expr} {ws vs : List Nat} {f : DTg} {fs : List DTg} (h1 : PDg T X e ws f) (h2 : PDgs T X es vs fs) (hs : (assignEach (e :: es) X.env).map (·.2) = assign e X.env :: (assignEach es X.env).map (·.2) := by rfl) : PDgs T X (e :: es) (ws ++ vs) (f :: fs) := fun pn xe => by
  obtain ⟨g1, p1, d1⟩ := h1 pn xe
  obtain ⟨g2, p2, d2⟩ := h2 pn xe
  refine ⟨_, pgs_cons (X := X.tr pn xe) p1 p2 hs, fun σ H P ι F δ δ' s ds vs Q R E r e k => ?_⟩
  cases ds with
  | nil => cases e
  | cons d ds =>
    unfold Rps at r
    obtain ⟨v, us, rfl, r1, r2⟩ := r
    have e' : (f d δ).bind (fun δ1 => tgs fs ds δ1) = some δ' := e
    cases q : f d δ with
    | none => rw [q] at e'; cases e'
    | some δ1 =>
      rw [q] at e'
      exact ⟨v, us, rfl, d1 _ _ _ _ _ _ _ _ _ _ _ R E r1 q fun σ1 E1 o1 => d2 _ _ _ _ _ _ _ _ _ _ _ R E1 r2 e' fun σ2 E2 o2 => k σ2 E2 (o1.app o2)⟩
theorem tgs_len : ∀ {ts : List DTg} {ds : List D} {δ δ' : Env}, tgs ts ds δ = some δ' → ds.length = ts.length
  | [], [], _, _, _ => rfl
  | [], _ :: _, _, _, e => by cases e
  | _ :: _, [], _, _, e => by cases e
  | t :: ts, d :: ds, δ, δ', e => by
    have e' : (t d δ).bind (fun δ1 => tgs ts ds δ1) = some δ' := e
    cases q : t d δ with
    | none => rw [q] at e'; cases e'
    | some δ1 => rw [q] at e'; simp [tgs_len e']
theorem g_tup {es : List Expr} {k : Nat} {pos : Pos} {ws : List Nat} {fs : List DTg} (h : PDgs T X es ws fs) (hn : (assignEach es X.env).length = fs.length := by rfl) (hst : (assignEach es X.env).findIdx? (·.1) = none := by rfl) (hc : X.calm = true := by rfl) (hK : X.K = T.K := by rfl) : PDg T X (.Tuple es k pos) ws (tgT fs) := fun pn xe => by
  obtain ⟨g1, p1, d1⟩ := h pn xe
  refine ⟨_, pg_tup (X := X.tr pn xe) hc p1 hn hst, fun σ H P ι F δ δ' s d v Q R E r e k => ?_⟩
  cases d with
  | tup xs =>
    obtain ⟨a, vs, rfl, h1, _, h2⟩ := tp_of R r
    have e' : tgs fs xs δ = some δ' := e
    refine ⟨a, vs, rfl, SqT.of h1, ?_, d1 _ _ _ _ _ _ _ _ _ _ _ R E h2 e' k⟩
    rw [← h2.len]
    exact tgs_len e'
  | _ => cases e
/-! ## simple statements -/
def sAsg (f : DE) (t : DTg) : DS := fun δ s => (f δ s).out δ fun d s1 => match t d δ with
  | some δ1 => .nx δ1 s1
  | none => .stuck
theorem s_asg {tg e : Expr} {pos : Pos} {f : DE} {ws : List Nat} {t : DTg} (he : PDe T X e f) (hg : PDg T X tg ws t) (hs : swapsWithSole [tg] e pos.line X.env = pure false := by rfl) (hw : swappedStores [tg] e X.env = pure none := by rfl)
    (h1 : (assignEach [tg] X.env).map (·.2) = [assign tg X.env] := by rfl) : PDs T X (.Assign [tg] e pos) (sAsg f t) := fun pn xe W tk _ => by
  obtain ⟨t1, p1, d1⟩ := he pn xe W tk
  obtain ⟨g1, q1, e1⟩ := hg pn xe
  refine ⟨_, ps_asg (X := X.tr pn xe) p1 q1 hs hw h1, fun En σ H P ι F δ s R E post => ?_⟩
  show t1 σ H _
  refine dens_then d1 R E post fun x y H1 ι1 F1 s1 g R1 E1 r1 post1 => ?_
  cases q : t x δ with
  | none => rw [q] at post1; exact post1.elim
  | some δ1 =>
    rw [q] at post1
    exact e1 _ _ _ _ _ _ _ _ _ _ _ R1 E1 r1 q fun σ' E' _ => post1 σ' H1 ι1 F1 (Grow.refl _ _) R1 E'
def sSet (i : Nat) (f : DE) : DS := sAsg f (tgN i)
theorem s_set {x : Str} {e : Expr} {pos pos' : Pos} {f : DE} (i : Nat) (hN : X.N.Nodup) (he : PDe T X e f) (hi : X.N[i]? = some x := by rfl) (hx : Loc X.env.scope x := by first | exact Or.inl rfl | exact Or.inr rfl)
    (hs : swapsWith e (some (.Name x pos')) pos.line X.env = pure false := by rfl) (hf : X.fn x = true ∨ X.env.scope.names.lookup x = some .local := by first | exact .inl rfl | exact .inr rfl) : PDs T X (.Assign [.Name x pos'] e pos) (sSet i f) := fun pn xe W tk _ => by
  obtain ⟨t1, p1, d1⟩ := he pn xe W tk
  refine ⟨_, ps_set (X := X.tr pn xe) hN hi hx p1 hs hf, fun En σ H P ι F δ s R E post => ?_⟩
  show t1 σ H _
  refine dens_then d1 R E post fun x y H1 ι1 F1 s1 g R1 E1 r1 post1 => ?_
  exact post1 _ H1 ι1 F1 (Grow.refl _ _) R1 (E1.set r1 i)
def sDrop (f : DE) : DS := fun δ s => (f δ s).out δ fun _ s1 => .nx δ s1
theorem s_expr {e : Expr} {pos : Pos} {f : DE} (he : PDe T X e f) (hs : swapsWith e none pos.line X.env = pure false := by rfl) : PDs T X (.Expr e pos) (sDrop f) := fun pn xe W tk _ => by
  obtain ⟨t1, p1, d1⟩ := he pn xe W tk
  refine ⟨_, ps_expr (X := X.tr pn xe) p1 hs, fun En σ H P ι F δ s R E post => ?_⟩
  show t1 σ H _
  refine dens_then d1 R E post fun x y H1 ι1 F1 s1 g R1 E1 r1 post1 => ?_
  exact post1 _ H1 ι1 F1 (Grow.refl _ _) R1 E1
def sRet (f : DE) : DS := fun δ s => (f δ s).out δ fun d s1 => .rt d s1
theorem s_ret {e : Expr} {pos : Pos} {f : DE} (he : PDe T X e f) : PDs T X (.Return (some e) pos) (sRet f) := fun pn xe W tk _ => by
  obtain ⟨t1, p1, d1⟩ := he pn xe W tk
  refine ⟨_, ps_ret p1, fun En σ H P ι F δ s R E post => ?_⟩
  show t1 σ H _
  refine dens_then d1 R E post fun x y H1 ι1 F1 s1 g R1 E1 r1 post1 => ?_
  exact post1 y H1 ι1 F1 (Grow.refl _ _) R1 r1
def sRetN : DS := fun _ s => .rt .non s
theorem s_retN {pos : Pos} : PDs T X (.Return none pos) sRetN := fun pn xe W _ _ => ⟨_, ps_retN, fun En σ H P ι F δ s R E post => post .non H ι F (Grow.refl _ _) R (by unfold Rp; rfl)⟩
def sPass : DS := fun δ s => .nx δ s
def sBrk : DS := fun δ s => .bk δ s
def sCt : DS := fun δ s => .ct δ s
theorem s_pass {pos : Pos} : PDs T X (.Pass pos) sPass := fun pn xe W _ _ => ⟨_, ps_pass, fun En σ H P ι F δ s R E post => post σ H ι F (Grow.refl _ _) R E⟩
theorem s_brk {pos : Pos} : PDs T X (.Break pos) sBrk := fun pn xe W _ _ => ⟨_, ps_break, fun En σ H P ι F δ s R E post => post σ H ι F (Grow.refl _ _) R E⟩
theorem s_ct {pos : Pos} : PDs T X (.Continue pos) sCt := fun pn xe W _ _ => ⟨_, ps_continue, fun En σ H P ι F δ s R E post => post σ H ι F (Grow.refl _ _) R E⟩
def sIf (c : DT) (f g : DS) : DS := fun δ s => (c δ s).out δ fun b s1 => match b with
  | true => f δ s1
  | false => g δ s1
theorem s_if {c : Expr} {a b : List Stmt} {pos : Pos} {fc : DT} {f g : DS} (hc : PDt T X c fc) (ha : PDb T X a f) (hb : PDb T X b g) : PDs T X (.If c a b pos) (sIf fc f g) := fun pn xe W tk ow => by
  obtain ⟨t0, p0, d0⟩ := hc pn xe W tk
  obtain ⟨t1, p1, d1⟩ := ha pn xe W tk ow
  obtain ⟨t2, p2, d2⟩ := hb pn xe W tk ow
  refine ⟨_, ps_if p0 p1 p2, fun En σ H P ι F δ s R E post => ?_⟩
  show t0 σ H _
  refine dens_then d0 R E post fun x y H1 ι1 F1 s1 g R1 E1 r1 post1 => ?_
  cases r1
  cases x with
  | true =>
    rw [if_pos rfl]
    exact d1 _ _ _ _ _ _ _ _ R1 E1 post1
  | false =>
    rw [if_neg Bool.false_ne_true]
    exact d2 _ _ _ _ _ _ _ _ R1 E1 post1
/-! ## blocks -/
def Out.andThen (o : Out) (k : DS) : Out := match o with
  | .nx δ s => k δ s
  | o => o
def sSeq (f g : DS) : DS := fun δ s => (f δ s).andThen g
theorem b_nil : PDb T X [] sPass := fun pn xe W _ _ => ⟨_, pss_nil, fun En σ H P ι F δ s R E post => post σ H ι F (Grow.refl _ _) R E⟩
theorem b_one {st : Stmt} {f : DS} (h : PDs T X st f) : PDb T X [st] f := fun pn xe W tk ow => by
  obtain ⟨t1, p1, d1⟩ := h pn xe W tk ow
  exact ⟨_, pss_one p1, d1⟩
theorem b_cons {st : Stmt} {rest : List Stmt} {f g : DS} (h : PDs T X st f) (hr : PDb T X rest g) : PDb T X (st :: rest) (sSeq f g) := fun pn xe W tk ow => by
  obtain ⟨t1, p1, d1⟩ := h pn xe W tk ow
  obtain ⟨t2, p2, d2⟩ := hr pn xe W tk ow
  refine ⟨_, pss_cons p1 p2, fun En σ H P ι F δ s R E post => ?_⟩
  show t1 { En with nx := t2 En } σ H
  refine d1 _ _ _ _ _ _ _ _ R E ?_
  unfold sSeq at post
  cases e : f δ s with
  | nx δ1 s1 =>
    rw [e] at post
    exact fun σ' H' ι' F' g' R' E' => d2 _ _ _ _ _ _ _ _ R' E' (post.mono g')
  | rt d s1 => rw [e] at post; exact post
  | bk δ1 s1 => rw [e] at post; exact post
  | ct δ1 s1 => rw [e] at post; exact post
  | ex c δ1 s1 => rw [e] at post; exact post
  | stuck => rw [e] at post; exact post
/-! ## iterables -/
def Walks (T : Tb) (J : It) (ds : List D) (F : Hp) (ι : List Addr) : Prop :=
  L2.Walk J ds.length (fun H => ∀ a o, F a = some o → H a = some o) fun i H x H2 => ∃ d, ds[i]? = some d ∧
    ((H2 = H ∧ Rp T F ι d x) ∨ ∃ p vs xs, x = .ref p ∧ H p = none ∧ H2 = upd H p (.tup vs) ∧ d = .tup xs ∧ Rps T F ι xs vs)
abbrev DIt := Env → Sto → Res (List D)
def DenI (T : Tb) (W : WX) (wi : TI) (f : DIt) : Prop := DenG T (fun F ι ds J => Walks T J ds F ι) W wi f
def PDi (T : Tb) (X : Cx) (tg iter : Expr) (f : DIt) : Prop := ∀ pn xe W, Takes (X.tr pn xe) W → ∃ wi, PI (X.tr pn xe) tg iter wi ∧ DenI T W wi f
theorem get_lt {α : Type} {xs : List α} {i : Nat} (h : i < xs.length) : ∃ x, xs[i]? = some x := ⟨xs[i], by simp [h]⟩
theorem walks_list {F : Hp} {ι : List Addr} {a : Addr} {vs : List V} {ds : List D} (h : SqL T.K F a vs) (r : Rps T F ι ds vs) : Walks T (Itl T.K a) ds F ι := by
  have w : L2.Walk (Itl T.K a) vs.length (fun H => SqL T.K H a vs) (YAt vs) := walk_list
  unfold Walks
  rw [r.len]
  refine w.mono (fun H hF => sql_mono hF h) fun i H x H' hi hF y => ?_
  obtain ⟨e1, e2⟩ := y
  have hi' : i < ds.length := by rw [r.len]; exact hi
  obtain ⟨d, hd⟩ := get_lt hi'
  obtain ⟨v, h1, h2⟩ := r.get hd
  rw [e2] at h1
  cases h1
  exact ⟨d, hd, .inl ⟨e1, h2⟩⟩
theorem walks_tup {F : Hp} {ι : List Addr} {a : Addr} {vs : List V} {ds : List D} (h : F a = some (.tup vs)) (r : Rps T F ι ds vs) : Walks T (Itt T.K a) ds F ι := by
  have w : L2.Walk (Itt T.K a) vs.length (fun H => SqT T.K H a vs) (YAt vs) := walk_tup
  unfold Walks
  rw [r.len]
  refine w.mono (fun H hF => SqT.of (hF _ _ h)) fun i H x H' hi hF y => ?_
  obtain ⟨e1, e2⟩ := y
  have hi' : i < ds.length := by rw [r.len]; exact hi
  obtain ⟨d, hd⟩ := get_lt hi'
  obtain ⟨v, h1, h2⟩ := r.get hd
  rw [e2] at h1
  cases h1
  exact ⟨d, hd, .inl ⟨e1, h2⟩⟩
/-- a list or a tuple that stays -/
def itSeq (f : DE) : DIt := fun δ s => (f δ s).bind fun x s1 => match x with
  | .lst xs => .ok xs s1
  | .scr ns => .ok (ns.map D.int) s1
  | .tup xs => .ok xs s1
  | _ => .stuck
theorem PI.or {tg e : Expr} {w w' : TI} (h : PI X tg e w) (h' : PI X tg e w') : PI X tg e (fun σ H R => w σ H R ∨ w' σ H R) := ⟨fun pins s σ H R I q => by
  rcases q with q | q
  · exact h.run pins s σ H R I q
  · exact h'.run pins s σ H R I q⟩
theorem den_iL {W : WX} {t : TE} {f : DE} (h : DenG T (Rp T) W t f) {σ : L2.St} {H P : Hp} {ι : List Addr} {F : Hp} {δ : Env} {s : Sto} {Q : It → Hp → Prop} (R : RelH T P ι F s H) (E : REnv T F ι δ σ)
    (post : Post T P (fun F ι ds J => Walks T J ds F ι) Q (fun c H' => W (.ref (T.ca c)) none σ H') F ι ((f δ s).bind fun x s1 => match x with
      | .lst xs => .ok xs s1
      | .scr ns => .ok (ns.map D.int) s1
      | _ => .stuck)) : iList T.K t σ H Q := by
  show t σ H _
  refine den_then h R E post fun x y H1 ι1 F1 s1 g R1 E1 r1 post1 => ?_
  cases x with
  | lst xs =>
    unfold Rp at r1
    obtain ⟨a, vs, rfl, h1, h2⟩ := r1
    exact ⟨a, rfl, ⟨vs, SqL.of (R1.sub _ _ h1)⟩, post1.here R1 (walks_list (SqL.of h1) h2)⟩
  | scr ns =>
    unfold Rp at r1
    obtain ⟨a, rfl, h1⟩ := r1
    exact ⟨a, rfl, ⟨_, sql_mono R1.sub h1⟩, post1.here R1 (walks_list h1 (rps_ints ns))⟩
  | _ => exact post1.elim
theorem den_iT {W : WX} {t : TE} {f : DE} (h : DenG T (Rp T) W t f) {σ : L2.St} {H P : Hp} {ι : List Addr} {F : Hp} {δ : Env} {s : Sto} {Q : It → Hp → Prop} (R : RelH T P ι F s H) (E : REnv T F ι δ σ)
    (post : Post T P (fun F ι ds J => Walks T J ds F ι) Q (fun c H' => W (.ref (T.ca c)) none σ H') F ι ((f δ s).bind fun x s1 => match x with
      | .tup xs => .ok xs s1
      | _ => .stuck)) : iTup T.K t σ H Q := by
  show t σ H _
  refine den_then h R E post fun x y H1 ι1 F1 s1 g R1 E1 r1 post1 => ?_
  cases x with
  | tup xs =>
    obtain ⟨a, vs, rfl, h1, h0, h2⟩ := tp_of R1 r1
    exact ⟨a, rfl, ⟨vs, SqT.of h1⟩, post1.here R1 (walks_tup h0 h2)⟩
  | _ => exact post1.elim
theorem i_seq {tg e : Expr} {f : DE} (h : PDe T X e f) (hK : X.K = T.K := by rfl) : PDi T X tg e (itSeq f) := fun pn xe W tk => by
  obtain ⟨t1, p1, d1⟩ := h pn xe W tk
  have hK' : (X.tr pn xe).K = T.K := hK
  refine ⟨_, PI.or (pi_list p1) (pi_tup p1), fun σ H P ι F δ s Q R E post => ?_⟩
  rw [hK']
  unfold itSeq at post
  cases e : f δ s with
  | ok x s1 =>
    rw [e] at post
    cases x with
    | lst xs => exact .inl (den_iL d1 R E (by rw [e]; exact post))
    | scr ns => exact .inl (den_iL d1 R E (by rw [e]; exact post))
    | tup xs => exact .inr (den_iT d1 R E (by rw [e]; exact post))
    | _ => exact post.elim
  | exc c s1 => rw [e] at post; exact .inl (den_iL d1 R E (by rw [e]; exact post))
  | stuck => rw [e] at post; exact post.elim
/-- range(n), range(a, b) -/
def intsD (a : Int) (n : Nat) : List D := (List.range n).map fun (i : Nat) => D.int (a + (i : Int))
def small62 (i : Int) : Bool := decide (-(2 ^ 62) ≤ i) && decide (i < 2 ^ 62)
def itR1 (f : DA) : DIt := fun δ s => (f δ s).bind fun xs s1 => match xs with
  | [.int n] => if small62 n = true then .ok (intsD 0 n.toNat) s1 else .stuck
  | _ => .stuck
def itR2 (f : DA) : DIt := fun δ s => (f δ s).bind fun xs s1 => match xs with
  | [.int a, .int b] => if (small62 a && small62 b) = true then .ok (intsD a (b - a).toNat) s1 else .stuck
  | _ => .stuck
theorem walks_range {F : Hp} {ι : List Addr} (a : Int) (n : Nat) : Walks T (Itr a n) (intsD a n) F ι := by
  have w : L2.Walk (Itr a n) n (fun _ => True) (YFn fun i => .int (a + i)) := walk_range
  unfold Walks
  have hl : (intsD a n).length = n := by simp [intsD]
  rw [hl]
  refine w.mono (fun H hF => trivial) fun i H x H' hi hF y => ?_
  obtain ⟨e1, e2⟩ := y
  refine ⟨.int (a + i), ?_, .inl ⟨e1, by unfold Rp; exact e2⟩⟩
  simp [intsD, List.getElem?_range hi]
theorem rps1 {F : Hp} {ι : List Addr} {d : D} {vs : List V} (r : Rps T F ι [d] vs) : ∃ v, vs = [v] ∧ Rp T F ι d v := by
  unfold Rps at r
  obtain ⟨v, us, rfl, h1, h2⟩ := r
  unfold Rps at h2
  subst h2
  exact ⟨v, rfl, h1⟩
theorem rps2 {F : Hp} {ι : List Addr} {d e : D} {vs : List V} (r : Rps T F ι [d, e] vs) : ∃ v u, vs = [v, u] ∧ Rp T F ι d v ∧ Rp T F ι e u := by
  unfold Rps at r
  obtain ⟨v, us, rfl, h1, h2⟩ := r
  obtain ⟨u, rfl, h3⟩ := rps1 h2
  exact ⟨v, u, rfl, h1, h3⟩
theorem i_range1 {tg a : Expr} {p pos : Pos} {f : DA} (hm : X.mg "range" = none) (ha : PDa T X [a] f) (hg : Gl X "range" := by rfl) (hs : starEach [a] X.env = [(false, eval a X.env)] := by rfl) : PDi T X tg (.Call (.Name "range" p) [a] [] pos) (itR1 f) := fun pn xe W tk => by
  obtain ⟨t1, p1, d1⟩ := ha pn xe W tk
  refine ⟨_, pi_range1 (X := X.tr pn xe) hg hm p1 hs, fun σ H P ι F δ s Q R E post => ?_⟩
  show t1 σ H _
  refine den_then d1 R E post fun x y H1 ι1 F1 s1 g R1 E1 r1 post1 => ?_
  split at post1
  · obtain ⟨v, rfl, h1⟩ := rps1 r1.1
    unfold Rp at h1
    split at post1
    · rename_i hn
      unfold small62 at hn
      simp only [Bool.and_eq_true, decide_eq_true_eq] at hn
      exact ⟨_, by rw [h1], hn.1, hn.2, post1.here R1 (walks_range _ _)⟩
    · exact post1.elim
  · exact post1.elim
theorem i_range2 {tg a b : Expr} {p pos : Pos} {f : DA} (hm : X.mg "range" = none) (ha : PDa T X [a, b] f) (hg : Gl X "range" := by rfl) (hs : starEach [a, b] X.env = [(false, eval a X.env), (false, eval b X.env)] := by rfl) (hs2 : starEach [b] X.env = [(false, eval b X.env)] := by rfl) : PDi T X tg (.Call (.Name "range" p) [a, b] [] pos) (itR2 f) := fun pn xe W tk => by
  obtain ⟨t1, p1, d1⟩ := ha pn xe W tk
  refine ⟨_, pi_range2 (X := X.tr pn xe) hg hm p1 hs hs2, fun σ H P ι F δ s Q R E post => ?_⟩
  show t1 σ H _
  refine den_then d1 R E post fun x y H1 ι1 F1 s1 g R1 E1 r1 post1 => ?_
  split at post1
  · obtain ⟨v, u, rfl, h1, h2⟩ := rps2 r1.1
    unfold Rp at h1 h2
    split at post1
    · rename_i hn
      unfold small62 at hn
      simp only [Bool.and_eq_true, decide_eq_true_eq] at hn
      exact ⟨_, _, by rw [h1, h2], ⟨hn.1.1, hn.1.2, hn.2.1, hn.2.2⟩, post1.here R1 (walks_range _ _)⟩
    · exact post1.elim
  · exact post1.elim
/-- zip of two lists, of two tuples -/
def zipD : List D → List D → List D
  | x :: xs, y :: ys => .tup [x, y] :: zipD xs ys
  | _, _ => []
theorem zipD_len : ∀ (xs ys : List D), (zipD xs ys).length = min xs.length ys.length
  | [], _ => by simp [zipD]
  | _ :: _, [] => by simp [zipD]
  | x :: xs, y :: ys => by simp [zipD, zipD_len xs ys]
theorem zipD_at : ∀ {xs ys : List D} {i : Nat} {x y : D}, xs[i]? = some x → ys[i]? = some y → (zipD xs ys)[i]? = some (.tup [x, y])
  | [], _, _, _, _, h, _ => by simp at h
  | _ :: _, [], _, _, _, _, h => by simp at h
  | a :: xs, b :: ys, 0, x, y, h, k => by simp at h k; subst h k; rfl
  | a :: xs, b :: ys, i + 1, x, y, h, k => by
    have := zipD_at (xs := xs) (ys := ys) (i := i) (x := x) (y := y) (by simpa using h) (by simpa using k)
    simpa [zipD] using this
def itZip (f : DA) : DIt := fun δ s => (f δ s).bind fun xs s1 => match xs with
  | [.lst a, .lst b] => .ok (zipD a b) s1
  | [.tup a, .tup b] => .ok (zipD a b) s1
  | _ => .stuck
theorem walks_zip {F : Hp} {ι : List Addr} {a b : Addr} {vs us : List V} {ds es : List D} (h : SqL T.K F a vs) (h' : SqL T.K F b us) (r : Rps T F ι ds vs) (r' : Rps T F ι es us) : Walks T (Itz T.K a b) (zipD ds es) F ι := by
  have w : L2.Walk (Itz T.K a b) (min vs.length us.length) (fun H => SqL T.K H a vs ∧ SqL T.K H b us) (YPair (fun i => vs[i]?) (fun i => us[i]?)) := walk_zip rfl
  unfold Walks
  rw [zipD_len, r.len, r'.len]
  refine w.mono (fun H hF => ⟨sql_mono hF h, sql_mono hF h'⟩) fun i H x H' hi hF y => ?_
  obtain ⟨p, v, u, e1, e2, e3, e4, e5⟩ := y
  have hi1 : i < ds.length := by rw [r.len]; omega
  have hi2 : i < es.length := by rw [r'.len]; omega
  obtain ⟨d, hd⟩ := get_lt hi1
  obtain ⟨e, he⟩ := get_lt hi2
  obtain ⟨v', h1, h2⟩ := r.get hd
  obtain ⟨u', h3, h4⟩ := r'.get he
  have e4' : vs[i]? = some v := e4
  have e5' : us[i]? = some u := e5
  rw [e4'] at h1
  rw [e5'] at h3
  cases h1
  cases h3
  exact ⟨_, zipD_at hd he, .inr ⟨p, [v, u], [d, e], e1, e2, e3, rfl, .cons h2 (.cons h4 .nil)⟩⟩
theorem walk_zipT {K : PySem.W.Frag} {a b : Addr} {xs ys : List V} : L2.Walk (RZ.ItzT K a b) (min xs.length ys.length) (fun H => H a = some (.tup xs) ∧ H b = some (.tup ys)) (YPair (fun i => xs[i]?) (fun i => ys[i]?)) where
  goes := fun i H hi h => by
    obtain ⟨x, hx⟩ := get_lt (xs := xs) (i := i) (by omega)
    obtain ⟨y, hy⟩ := get_lt (xs := ys) (i := i) (by omega)
    exact ⟨xs, ys, x, y, SqT.of h.1, SqT.of h.2, hx, hy⟩
  stops := fun H h => ⟨xs, ys, SqT.of h.1, SqT.of h.2, by omega⟩
  yields := fun i H x H' hi h y => by
    obtain ⟨p, v, u, e1, e2, e3, e4, e5⟩ := y
    exact ⟨p, v, u, e1, e2, e3, e4 _ (SqT.of h.1), e5 _ (SqT.of h.2)⟩
theorem walks_zipT {F : Hp} {ι : List Addr} {a b : Addr} {vs us : List V} {ds es : List D} (h : F a = some (.tup vs)) (h' : F b = some (.tup us)) (r : Rps T F ι ds vs) (r' : Rps T F ι es us) : Walks T (RZ.ItzT T.K a b) (zipD ds es) F ι := by
  have w : L2.Walk (RZ.ItzT T.K a b) (min vs.length us.length) (fun H => H a = some (.tup vs) ∧ H b = some (.tup us)) (YPair (fun i => vs[i]?) (fun i => us[i]?)) := walk_zipT
  unfold Walks
  rw [zipD_len, r.len, r'.len]
  refine w.mono (fun H hF => ⟨hF _ _ h, hF _ _ h'⟩) fun i H x H' hi hF y => ?_
  obtain ⟨p, v, u, e1, e2, e3, e4, e5⟩ := y
  have hi1 : i < ds.length := by rw [r.len]; omega
  have hi2 : i < es.length := by rw [r'.len]; omega
  obtain ⟨d, hd⟩ := get_lt hi1
  obtain ⟨e, he⟩ := get_lt hi2
  obtain ⟨v', h1, h2⟩ := r.get hd
  obtain ⟨u', h3, h4⟩ := r'.get he
  have e4' : vs[i]? = some v := e4
  have e5' : us[i]? = some u := e5
  rw [e4'] at h1
  rw [e5'] at h3
  cases h1
  cases h3
  exact ⟨_, zipD_at hd he, .inr ⟨p, [v, u], [d, e], e1, e2, e3, rfl, .cons h2 (.cons h4 .nil)⟩⟩
theorem i_zip {e e2 : Expr} {p pos tpos : Pos} {elts : List Expr} {kk : Nat} {f : DA} (hm : X.mg "zip" = none) (ha : PDa T X [e, e2] f) (hg : Gl X "zip" := by rfl)
    (hs : starEach [e, e2] X.env = (false, eval e X.env) :: starEach [e2] X.env := by rfl) (hpl : (backTo pos (starEach [e2] X.env)).any (·.1) = false := by rfl) (hK : X.K = T.K := by rfl) :
    PDi T X (.Tuple elts kk tpos) (.Call (.Name "zip" p) [e, e2] [] pos) (itZip f) := fun pn xe W tk => by
  obtain ⟨t1, p1, d1⟩ := ha pn xe W tk
  have hK' : (X.tr pn xe).K = T.K := hK
  refine ⟨_, RZ.pi_zipA (X := X.tr pn xe) hg hm p1 hs hpl, fun σ H P ι F δ s Q R E post => ?_⟩
  rw [hK']
  show t1 σ H _
  refine den_then d1 R E post fun x y H1 ι1 F1 s1 g R1 E1 r1 post1 => ?_
  split at post1
  · obtain ⟨v, u, rfl, h1, h2⟩ := rps2 r1.1
    unfold Rp at h1 h2
    obtain ⟨a, vs, rfl, h3, h4⟩ := h1
    obtain ⟨b, us, rfl, h5, h6⟩ := h2
    exact ⟨a, b, vs, us, rfl, .inl ⟨SqL.of (R1.sub _ _ h3), SqL.of (R1.sub _ _ h5), post1.here R1 (walks_zip (SqL.of h3) (SqL.of h5) h4 h6)⟩⟩
  · obtain ⟨v, u, rfl, h1, h2⟩ := rps2 r1.1
    obtain ⟨a, vs, rfl, h3, h3', h4⟩ := tp_of R1 h1
    obtain ⟨b, us, rfl, h5, h5', h6⟩ := tp_of R1 h2
    exact ⟨a, b, vs, us, rfl, .inr ⟨SqT.of h3, SqT.of h5, post1.here R1 (walks_zipT h3' h5' h4 h6)⟩⟩
  · exact post1.elim
/-! ## for -/
def forL (t : DTg) (body : DS) : List D → DS
  | [], δ, s => .nx δ s
  | d :: r, δ, s => match t d δ with
    | none => .stuck
    | some δ1 => match body δ1 s with
      | .nx δ2 s2 => forL t body r δ2 s2
      | .ct δ2 s2 => forL t body r δ2 s2
      | .bk δ2 s2 => .nx δ2 s2
      | o => o
def sFor (it : DIt) (t : DTg) (body : DS) : DS := fun δ s => (it δ s).out δ fun ds s1 => forL t body ds δ s1
theorem drop_get {α : Type} {xs : List α} {i : Nat} {x : α} (h : xs[i]? = some x) : xs.drop i = x :: xs.drop (i + 1) := by
  have hi := (List.getElem?_eq_some_iff.mp h).1
  have e := (List.getElem?_eq_some_iff.mp h).2
  rw [List.drop_eq_getElem_cons hi, e]
/-- the item has come: the heap goes on, the item is at hand -/
theorem item_ok {P : Hp} {ι0 ι : List Addr} {F0 F : Hp} {s : Sto} {H H2 : Hp} {d : D} {x : V} (g : Grow F0 ι0 F ι) (R : RelH T P ι F s H) (y : (H2 = H ∧ Rp T F0 ι0 d x) ∨ ∃ p vs xs, x = .ref p ∧ H p = none ∧ H2 = upd H p (.tup vs) ∧ d = .tup xs ∧ Rps T F0 ι0 xs vs) :
    ∃ F', Grow F ι F' ι ∧ RelH T P ι F' s H2 ∧ Rp T F' ι d x := by
  rcases y with ⟨e, r⟩ | ⟨p, vs, xs, e1, e2, e3, e4, e5⟩
  · subst e
    exact ⟨F, Grow.refl _ _, R, r.mono g⟩
  · subst e1 e3 e4
    refine ⟨upd F p (.tup vs), grow_new (R.freeF e2) _, R.new e2 _, ?_⟩
    unfold Rp
    exact ⟨p, vs, rfl, upd_same, e5.mono (g.trans (grow_new (R.freeF e2) _))⟩
theorem den_for {W : WX} {wi : TI} {f : DIt} {g : TG} {ws : List Nat} {t : DTg} {tb : TS} {body : DS} (hi : DenI T W wi f) (hg : DenT T ws g t) (hb : DenS T W tb body) : DenS T W (tFor wi g tb) (sFor f t body) := fun En σ H P ι F δ s R E post => by
  show wi σ H _
  refine dens_then hi R E post fun ds J H1 ι1 F1 s1 g1 R1 E1 w post1 => ?_
  refine for_it w (fun i σ' H' => ∃ ι' F' δ' s', Grow F1 ι1 F' ι' ∧ RelH T P ι' F' s' H' ∧ REnv T F' ι' δ' σ' ∧ PostS T P En W F' ι' (forL t body (ds.drop i) δ' s')) ⟨ι1, F1, δ, s1, Grow.refl _ _, R1, E1, by simpa using post1⟩ ?_ ?_ ?_
  · rintro i σ' H' _ ⟨ι', F', δ', s', g', R', E', _⟩
    exact fun a o h => R'.sub _ _ (g'.1 _ _ h)
  · rintro i x σ' H' H2 hi ⟨ι', F', δ', s', g', R', E', post'⟩ ⟨d, hd, y⟩
    obtain ⟨F2, g2, R2, r2⟩ := item_ok g' R' y
    rw [drop_get hd] at post'
    unfold forL at post'
    cases q : t d δ' with
    | none => rw [q] at post'; exact post'.elim
    | some δ1 =>
      rw [q] at post'
      dsimp only at post'
      refine hg _ _ _ _ _ _ _ _ _ _ _ R2 (E'.mono g2) r2 q fun σ2 E2 _ => ?_
      refine hb _ _ _ _ _ _ _ _ R2 E2 ?_
      cases qb : body δ1 s' with
      | nx δ2 s2 =>
        rw [qb] at post'
        exact fun σ3 H3 ι3 F3 g3 R3 E3 => ⟨ι3, F3, δ2, s2, (g'.trans g2).trans g3, R3, E3, post'.mono (g2.trans g3)⟩
      | ct δ2 s2 =>
        rw [qb] at post'
        exact fun σ3 H3 ι3 F3 g3 R3 E3 => ⟨ι3, F3, δ2, s2, (g'.trans g2).trans g3, R3, E3, post'.mono (g2.trans g3)⟩
      | bk δ2 s2 =>
        rw [qb] at post'
        exact post'.mono g2
      | rt d2 s2 =>
        rw [qb] at post'
        exact post'.mono g2
      | ex c δ2 s2 =>
        rw [qb] at post'
        exact post'.mono g2
      | stuck => rw [qb] at post'; exact post'.elim
  · rintro σ' H' ⟨ι', F', δ', s', g', R', E', post'⟩
    rw [List.drop_length] at post'
    exact post' σ' H' ι' F' (Grow.refl _ _) R' E'
theorem s_for {tg iter : Expr} {body : List Stmt} {pos : Pos} {f : DIt} {ws : List Nat} {t : DTg} {g : DS} (hi : PDi T X tg iter f) (hg : PDg T X tg ws t) (hb : PDb T X body g) (hc : X.calm = true := by rfl) (hs : ∀ x, foldedSetIterable iter X.env x = pure x := by intro _; rfl) : PDs T X (.For tg iter body [] pos) (sFor f t g) := fun pn xe W tk ow => by
  obtain ⟨wi, p1, d1⟩ := hi pn xe W tk
  obtain ⟨g1, p2, d2⟩ := hg pn xe
  obtain ⟨tb, p3, d3⟩ := hb pn xe W tk ow
  exact ⟨_, ps_for (X := X.tr pn xe) ow hc p1 p2 p3 hs, den_for d1 d2 d3⟩
/-! ## while, so many turns at the most -/
def whL (c : DT) (body : DS) : Nat → DS
  | 0, _, _ => .stuck
  | n + 1, δ, s => (c δ s).out δ fun b s1 => match b with
    | false => .nx δ s1
    | true => match body δ s1 with
      | .nx δ2 s2 => whL c body n δ2 s2
      | .ct δ2 s2 => whL c body n δ2 s2
      | .bk δ2 s2 => .nx δ2 s2
      | o => o
def sWh (n : Nat) (c : DT) (body : DS) : DS := whL c body n
theorem den_while {W : WX} {tc : TT} {c : DT} {tb : TS} {body : DS} (n : Nat) (hc : DenG T eqR W tc c) (hb : DenS T W tb body) : DenS T W (tWhile tc tb) (sWh n c body) := fun En σ H P ι F δ s R E post => by
  refine ⟨fun m σ' H' => ∃ ι' F' δ' s', RelH T P ι' F' s' H' ∧ REnv T F' ι' δ' σ' ∧ PostS T P En W F' ι' (whL c body m δ' s'), ⟨n, ι, F, δ, s, R, E, post⟩, ?_⟩
  rintro m σ' H' ⟨ι', F', δ', s', R', E', post'⟩
  cases m with
  | zero => exact post'.elim
  | succ m =>
    unfold whL at post'
    refine dens_then hc R' E' post' fun b b' H1 ι1 F1 s1 g1 R1 E1 eb post1 => ?_
    cases eb
    cases b with
    | false =>
      rw [if_neg Bool.false_ne_true]
      exact post1 _ _ _ _ (Grow.refl _ _) R1 E1
    | true =>
      rw [if_pos rfl]
      refine ⟨fun σ2 H2 => ∃ ι2 F2 δ2 s2, RelH T P ι2 F2 s2 H2 ∧ REnv T F2 ι2 δ2 σ2 ∧ PostS T P En W F2 ι2 (whL c body m δ2 s2), fun σ2 H2 z => ⟨m, Nat.lt_succ_self _, z⟩, ?_⟩
      refine hb _ _ _ _ _ _ _ _ R1 E1 ?_
      dsimp only at post1
      cases qb : body δ' s1 with
      | nx δ2 s2 =>
        rw [qb] at post1
        exact fun σ3 H3 ι3 F3 g3 R3 E3 => ⟨ι3, F3, δ2, s2, R3, E3, post1.mono g3⟩
      | ct δ2 s2 =>
        rw [qb] at post1
        exact fun σ3 H3 ι3 F3 g3 R3 E3 => ⟨ι3, F3, δ2, s2, R3, E3, post1.mono g3⟩
      | bk δ2 s2 => rw [qb] at post1; exact post1
      | rt d2 s2 => rw [qb] at post1; exact post1
      | ex c δ2 s2 => rw [qb] at post1; exact post1
      | stuck => rw [qb] at post1; exact post1.elim
theorem s_while {c : Expr} {body : List Stmt} {pos : Pos} {fc : DT} {g : DS} (n : Nat) (hc : PDt T X c fc) (hb : PDb T X body g) : PDs T X (.While c body [] pos) (sWh n fc g) := fun pn xe W tk ow => by
  obtain ⟨t0, p0, d0⟩ := hc pn xe W tk
  obtain ⟨t1, p1, d1⟩ := hb pn xe W tk ow
  exact ⟨_, ps_while (X := X.tr pn xe) ow p0 p1, den_while n d0 d1⟩
end
end Mp
/-! # MpE -/
namespace Mp
open PySem PySem.Spec L2

/-! ## canonical readings: one reading for all contexts -/
def canE {α β : Type} (T : Tb) (Rl : Hp → List Addr → α → β → Prop) (W : WX) (f : Env → Sto → Res α) : L2.St → Hp → (β → Hp → Prop) → Prop := fun σ H Q =>
  ∃ P ι F δ s, RelH T P ι F s H ∧ REnv T F ι δ σ ∧ Post T P Rl Q (fun c H' => W (.ref (T.ca c)) none σ H') F ι (f δ s)
def canT (T : Tb) (ws : List Nat) (f : DTg) : TG := fun v σ H Q => ∃ P ι F δ δ' s d, RelH T P ι F s H ∧ REnv T F ι δ σ ∧ Rp T F ι d v ∧ f d δ = some δ' ∧ ∀ σ', REnv T F ι δ' σ' → Off ws σ σ' → Q σ' H
section
variable {T : Tb} {X : Cx}
theorem PE.weak {e : Expr} {t t' : TE} (h : PE X e t) (k : ∀ σ H Q, t' σ H Q → t σ H Q) : PE X e t' := ⟨fun pins s σ H Q I q => h.run pins s σ H Q I (k _ _ _ q)⟩
theorem PT.weak {e : Expr} {t t' : TT} (h : PT X e t) (k : ∀ σ H Q, t' σ H Q → t σ H Q) : PT X e t' := ⟨fun pins s σ H Q I q => h.run pins s σ H Q I (k _ _ _ q)⟩
theorem PG.weak {e : Expr} {t t' : TG} (h : PG X e t) (k : ∀ v σ H Q, t' v σ H Q → t v σ H Q) : PG X e t' := ⟨fun pins s σ H v u Q I r q => h.run pins s σ H v u Q I r (k _ _ _ _ q)⟩
theorem DenG.can {α β : Type} {Rl : Hp → List Addr → α → β → Prop} {W : WX} {t : L2.St → Hp → (β → Hp → Prop) → Prop} {f : Env → Sto → Res α} (d : DenG T Rl W t f) {σ : L2.St} {H : Hp} {Q : β → Hp → Prop} (h : canE T Rl W f σ H Q) : t σ H Q := by
  obtain ⟨P, ι, F, δ, s, R, E, post⟩ := h
  exact d _ _ _ _ _ _ _ _ R E post
theorem DenT.can {ws : List Nat} {t : TG} {f : DTg} (d : DenT T ws t f) {v : V} {σ : L2.St} {H : Hp} {Q : L2.St → Hp → Prop} (h : canT T ws f v σ H Q) : t v σ H Q := by
  obtain ⟨P, ι, F, δ, δ', s, x, R, E, r, e, k⟩ := h
  exact d _ _ _ _ _ _ _ _ _ _ _ R E r e k
/-! ## list comprehensions -/
/-- a clause's tests -/
def PDts (T : Tb) (X : Cx) (ifs : List Expr) (f : DT) : Prop := ∃ t, PTs X ifs t ∧ DenG T eqR (fun _ _ _ _ => False) t f
def cYes : DT := fun _ s => .ok true s
def W0 : WX := fun _ _ _ _ => False
theorem ts_nil : PDts T X [] cYes := ⟨_, pts_nil, fun _ _ _ _ _ _ _ _ R _ post => post.here R rfl⟩
theorem ts_one {c : Expr} {f : DT} (h : PDt T X c f) : PDts T X [c] f := by
  obtain ⟨t, p, d⟩ := h X.pn X.xe (fun _ _ _ _ => False) takes0
  exact ⟨t, pts_one p, d⟩
theorem PTs.weak {e : List Expr} {t t' : TT} (h : PTs X e t) (k : ∀ σ H Q, t' σ H Q → t σ H Q) : PTs X e t' := ⟨fun pins s σ H Q I q => h.run pins s σ H Q I (k _ _ _ q)⟩
def wipeE (δ : Env) : List Nat → Env
  | [] => δ
  | v :: vs => (wipeE δ vs).set v none
theorem REnv.wipe {F : Hp} {ι : List Addr} {δ : Env} {σ : L2.St} (E : REnv T F ι δ σ) : ∀ vs : List Nat, REnv T F ι (wipeE δ vs) (L2.wipe σ vs)
  | [] => E
  | v :: vs => (E.wipe vs).unset v
def lcL (t : DTg) (c : DT) (e : DE) (δ : Env) : List D → List D → Sto → Res D
  | [], acc, s => .ok (.lst acc) s
  | d :: r, acc, s => match t d δ with
    | none => .stuck
    | some δ1 => match c δ1 s with
      | .ok true s2 => match e δ1 s2 with
        | .ok y s3 => if acc.length < lim then lcL t c e δ r (acc ++ [y]) s3 else .stuck
        | _ => .stuck
      | .ok false s2 => lcL t c e δ r acc s2
      | _ => .stuck
def dLc (it : DIt) (t : DTg) (c : DT) (e : DE) (vs : List Nat) : DE := fun δ s => (it δ s).bind fun ds s1 => lcL t c e (wipeE δ vs) ds [] s1
abbrev Blk (X : Cx) (scope : Scope) (s : Shared) (H : Hp) (C : Addr) (cl : List (Str × Addr)) (fp : List Addr) : Cx := X.blk s H scope (compEnvC scope cl C X.env) fp
theorem den_lc {W : WX} {wi : TI} {it : DIt} {ws vs : List Nat} {t : DTg} {c : DT} {e : DE} (hi : DenI T W wi it) (hs : ∀ i ∈ ws, i ∈ vs) :
    DenG T (Rp T) W (tLc wi (canT T ws t) (canE T eqR W0 c) (canE T (Rp T) W0 e) vs) (dLc it t c e vs) := fun σ H P ι F δ s Q R E post => by
  show wi σ H _
  refine den_then hi R E post fun ds J H1 ι1 F1 s1 g1 R1 E1 w post1 => fun L hL => ?_
  have hPL : P L = none := R1.freeP hL
  refine lc_it w (fun i H' => ∃ ι' F' s' acc vacc, Grow F1 ι1 F' ι' ∧ RelH T (upd P L (.lst vacc)) ι' F' s' H' ∧ Rps T F' ι' acc vacc ∧
      Post T P (Rp T) Q (fun c H' => W (.ref (T.ca c)) none σ H') F' ι' (lcL t c e (wipeE δ vs) (ds.drop i) acc s'))
    ⟨ι1, F1, s1, [], [], Grow.refl _ _, R1.newP hL _, .nil, by simpa using post1⟩ ?_ ?_ ?_
  · rintro i H' _ ⟨ι', F', s', acc, vacc, g', R', _, _⟩
    exact fun a o h => R'.sub _ _ (g'.1 _ _ h)
  · rintro i x H' H2 hi' ⟨ι', F', s', acc, vacc, g', R', ra, post'⟩ ⟨d, hd, y⟩
    obtain ⟨F2, g2, R2, r2⟩ := item_ok g' R' y
    rw [drop_get hd] at post'
    unfold lcL at post'
    have Ew : REnv T F2 ι' (wipeE δ vs) (L2.wipe σ vs) := ((E1.mono g').mono g2).wipe vs
    cases q : t d (wipeE δ vs) with
    | none => rw [q] at post'; exact post'.elim
    | some δ1 =>
      rw [q] at post'
      dsimp only at post'
      refine ⟨_, ι', F2, _, δ1, s', d, R2, Ew, r2, q, fun σ2 E2 o2 => ⟨o2.wipe hs |>.trans ?_, ?_⟩⟩
      · refine List.ext_getElem? fun j => ?_
        rw [wipe_at, wipe_at, wipe_length]
        by_cases c : j ∈ vs ∧ j < σ.length
        · rw [if_pos c, if_pos c]
        · rw [if_neg c, if_neg c]
      · refine ⟨_, ι', F2, δ1, s', R2, E2, ?_⟩
        cases qc : c δ1 s' with
        | stuck => rw [qc] at post'; exact post'.elim
        | exc k s2 => rw [qc] at post'; exact post'.elim
        | ok b s2 =>
          rw [qc] at post'
          intro b' H3 ι3 F3 g3 R3 eb
          cases eb
          cases b with
          | false =>
            rw [if_neg Bool.false_ne_true]
            exact ⟨ι3, F3, s2, acc, vacc, (g'.trans g2).trans g3, R3, ra.mono (g2.trans g3), post'.mono (g2.trans g3)⟩
          | true =>
            rw [if_pos rfl]
            refine ⟨_, ι3, F3, δ1, s2, R3, E2.mono g3, ?_⟩
            dsimp only at post'
            cases qe : e δ1 s2 with
            | stuck => rw [qe] at post'; exact post'.elim
            | exc k s3 => rw [qe] at post'; exact post'.elim
            | ok z s3 =>
              rw [qe] at post'
              intro v H4 ι4 F4 g4 R4 rv
              dsimp only at post'
              have ra' := ra.mono ((g2.trans g3).trans g4)
              split at post'
              · rename_i hl
                refine ⟨vacc, R4.pro _ _ upd_same, by rw [← ra.len]; exact lim_lt (Nat.le_of_lt hl), ι4, F4, s3, acc ++ [z], vacc ++ [v], ((g'.trans g2).trans g3).trans g4, ?_, ra'.app (.cons rv .nil), post'.mono ((g2.trans g3).trans g4)⟩
                have := R4.setP (p := L) upd_same (.lst (vacc ++ [v]))
                rw [upd_upd] at this
                exact this
              · exact post'.elim
  · rintro H' ⟨ι', F', s', acc, vacc, g', R', ra, post'⟩
    rw [List.drop_length] at post'
    have R2 := R'.thaw hPL
    have gr : Grow F' ι' (upd F' L (.lst vacc)) ι' := grow_new (R'.dis L _ upd_same) _
    refine post' (.ref L) H' ι' _ gr R2 ?_
    unfold Rp
    exact ⟨L, vacc, rfl, upd_same, ra.mono gr⟩
theorem d_lc {elt tg iter : Expr} {ifs : List Expr} {scope : Scope} {own : List (Str × Nat)} {pos : Pos} {it : DIt} {ws : List Nat} {t : DTg} {c : DT} {e : DE} (hN : X.N.Nodup) (hi : PDi T X tg iter it) (ok : BlkOk X.N X.env.scope scope own)
    (hg : ∀ (s : Shared) (H : Hp) (C : Addr) (cl : List (Str × Addr)) (fp : List Addr), PDg T (Blk X scope s H C cl fp) tg ws t) (ht : ∀ (s : Shared) (H : Hp) (C : Addr) (cl : List (Str × Addr)) (fp : List Addr), PDts T (Blk X scope s H C cl fp) ifs c)
    (he : ∀ (s : Shared) (H : Hp) (C : Addr) (cl : List (Str × Addr)) (fp : List Addr), PDe T (Blk X scope s H C cl fp) elt e) (hs : ∀ i ∈ ws, i ∈ own.map (·.2) := by decide) (hf : ∀ x, foldedSetIterable iter X.env x = pure x := by intro _; rfl) (hc : X.calm = true := by rfl) :
    PDe T X (.ListComp elt [⟨tg, iter, ifs, 0⟩] scope pos) (dLc it t c e (own.map (·.2))) := fun pn xe W tk => by
  obtain ⟨wi, p1, d1⟩ := hi pn xe W tk
  refine ⟨_, pe_lc (X := X.tr pn xe) (own := own) hc hN p1 ok (g := canT T ws t) (tt := canE T eqR W0 c) (te := canE T (Rp T) W0 e) (fun s H C cl fp => ?_) (fun s H C cl fp => ?_) (fun s H C cl fp => ?_) hf, den_lc d1 hs⟩
  · obtain ⟨g, p, d⟩ := hg s H C cl fp [] (fun _ _ => False)
    exact PG.weak p fun v σ H Q q => d.can q
  · obtain ⟨g, p, d⟩ := ht s H C cl fp
    exact PTs.weak p fun σ H Q q => d.can q
  · obtain ⟨g, p, d⟩ := he s H C cl fp [] (fun _ _ => False) W0 takes0
    exact PE.weak p fun σ H Q q => d.can q
theorem s_setLc {elt tg iter : Expr} {ifs : List Expr} {scope : Scope} {own : List (Str × Nat)} {pos spos py : Pos} {y : Str} {it : DIt} {ws : List Nat} {t : DTg} {c : DT} {e : DE} (i : Nat) (hN : X.N.Nodup) (hi : PDi T X tg iter it) (ok : BlkOk X.N X.env.scope scope own)
    (hg : ∀ (s : Shared) (H : Hp) (C : Addr) (cl : List (Str × Addr)) (fp : List Addr), PDg T (Blk X scope s H C cl fp) tg ws t) (ht : ∀ (s : Shared) (H : Hp) (C : Addr) (cl : List (Str × Addr)) (fp : List Addr), PDts T (Blk X scope s H C cl fp) ifs c)
    (he : ∀ (s : Shared) (H : Hp) (C : Addr) (cl : List (Str × Addr)) (fp : List Addr), PDe T (Blk X scope s H C cl fp) elt e) (hsw : swapsWith (.ListComp elt [⟨tg, iter, ifs, 0⟩] scope pos) (some (.Name y py)) spos.line X.env = pure true)
    (hy : X.N[i]? = some y := by rfl) (hyl : X.env.scope.names.lookup y = some .local := by rfl) (hs : ∀ i ∈ ws, i ∈ own.map (·.2) := by decide) (hf : ∀ x, foldedSetIterable iter X.env x = pure x := by intro _; rfl) (hc : X.calm = true := by rfl) :
    PDs T X (.Assign [.Name y py] (.ListComp elt [⟨tg, iter, ifs, 0⟩] scope pos) spos) (sSet i (dLc it t c e (own.map (·.2)))) := fun pn xe W tk _ => by
  obtain ⟨wi, p1, d1⟩ := hi pn xe W tk
  refine ⟨_, ps_setLc (X := X.tr pn xe) (i := i) (own := own) hc hN hy hyl hsw p1 ok (g := canT T ws t) (tt := canE T eqR W0 c) (te := canE T (Rp T) W0 e) (fun s H C cl fp => ?_) (fun s H C cl fp => ?_) (fun s H C cl fp => ?_) hf, fun En σ H P ι F δ s R E post => ?_⟩
  · obtain ⟨g, p, d⟩ := hg s H C cl fp [] (fun _ _ => False)
    exact PG.weak p fun v σ H Q q => d.can q
  · obtain ⟨g, p, d⟩ := ht s H C cl fp
    exact PTs.weak p fun σ H Q q => d.can q
  · obtain ⟨g, p, d⟩ := he s H C cl fp [] (fun _ _ => False) W0 takes0
    exact PE.weak p fun σ H Q q => d.can q
  · have dl : DenG T (Rp T) W _ _ := den_lc (T := T) (c := c) (e := e) (t := t) d1 hs
    show tLc wi (canT T ws t) (canE T eqR W0 c) (canE T (Rp T) W0 e) (own.map (·.2)) σ H _
    refine dens_then (t := tLc wi (canT T ws t) (canE T eqR W0 c) (canE T (Rp T) W0 e) (own.map (·.2))) dl R E post fun x v H1 ι1 F1 s1 g R1 E1 r1 post1 => ?_
    exact post1 _ H1 ι1 F1 (Grow.refl _ _) R1 (E1.set r1 i)
end

/-! ## functions -/
mutual
def below (n : Nat) : D → Bool
  | .loc m => decide (m < n)
  | .tup xs => belows n xs
  | .lst xs => belows n xs
  | .dct _ xs => belows n xs
  | .obj _ _ xs => belows n xs
  | .fn _ _ _ _ ds => belows n ds
  | _ => true
def belows (n : Nat) : List D → Bool
  | [] => true
  | x :: xs => below n x && belows n xs
end
def Cell.below (n : Nat) : Cell → Bool
  | .dead => true
  | .lst xs => belows n xs
  | .dct _ xs => belows n xs
  | .obj _ _ xs => belows n xs
  | .tbl _ => true
/-- what a call leaves: its own cells go -/
def cut (n : Nat) (d : D) (s : Sto) : Res D := if s.length = n then .ok d s else if (decide (n ≤ s.length) && (below n d && (s.take n).all (Cell.below n))) = true then .ok d (s.take n) else .ok d s
def cutX (n : Nat) (c : Nat) (s : Sto) : Res D := if s.length = n then .exc c s else if (decide (n ≤ s.length) && (s.take n).all (Cell.below n)) = true then .exc c (s.take n) else .stuck
section
variable {T : Tb}
mutual
theorem Rp.take {F : Hp} {ι : List Addr} {n : Nat} : ∀ {d : D} {v : V}, Rp T F ι d v → below n d = true → Rp T F (ι.take n) d v
  | .non, _, h, _ => by unfold Rp at h ⊢; exact h
  | .bl _, _, h, _ => by unfold Rp at h ⊢; exact h
  | .int _, _, h, _ => by unfold Rp at h ⊢; exact h
  | .str _, _, h, _ => by unfold Rp at h ⊢; exact h
  | .tup xs, v, h, b => by
    unfold Rp at h ⊢
    obtain ⟨a, vs, e, q, r⟩ := h
    exact ⟨a, vs, e, q, Rps.takeI r b⟩
  | .lst xs, v, h, b => by
    unfold Rp at h ⊢
    obtain ⟨a, vs, e, q, r⟩ := h
    exact ⟨a, vs, e, q, Rps.takeI r b⟩
  | .scr ns, v, h, _ => by unfold Rp at h ⊢; exact h
  | .dct ks xs, v, h, b => by
    unfold Rp at h ⊢
    obtain ⟨a, kvs, e, q, k, r⟩ := h
    exact ⟨a, kvs, e, q, k, Rps.takeI r b⟩
  | .obj c ns xs, v, h, b => by
    unfold Rp at h ⊢
    obtain ⟨a, dx, fs, e, q, k, r⟩ := h
    exact ⟨a, dx, fs, e, q, k, Rps.takeI r b⟩
  | .loc m, v, h, b => by
    unfold Rp at h ⊢
    obtain ⟨a, q, e⟩ := h
    have hm : m < n := of_decide_eq_true b
    exact ⟨a, by rw [List.getElem?_take_of_lt hm]; exact q, e⟩
  | .exc c, v, h, _ => by unfold Rp at h ⊢; exact h
  | .cls _, _, h, _ => by unfold Rp at h ⊢; exact h
  | .ty _, _, h, _ => by unfold Rp at h ⊢; exact h
  | .fn _ _ _ vs ds, _, h, b => by
    unfold Rp at h ⊢
    exact ⟨h.1, h.2.1, Rps.takeI h.2.2 b⟩
theorem Rps.takeI {F : Hp} {ι : List Addr} {n : Nat} : ∀ {ds : List D} {vs : List V}, Rps T F ι ds vs → belows n ds = true → Rps T F (ι.take n) ds vs
  | [], _, h, _ => by unfold Rps at h ⊢; exact h
  | x :: xs, vs, h, b => by
    unfold Rps at h ⊢
    obtain ⟨v, r, e, p, q⟩ := h
    have b' : (below n x && belows n xs) = true := b
    rw [Bool.and_eq_true] at b'
    exact ⟨v, r, e, Rp.take p b'.1, Rps.takeI q b'.2⟩
end
theorem RelH.cut {P : Hp} {ι : List Addr} {F : Hp} {s : Sto} {H : Hp} {n : Nat} (R : RelH T P ι F s H) (hb : (s.take n).all (Cell.below n) = true) : RelH T P (ι.take n) F (s.take n) H := by
  have lt : ∀ {m : Nat} {c : Cell}, (s.take n)[m]? = some c → m < n ∧ s[m]? = some c := fun {m c} h => by
    have h1 := (List.getElem?_eq_some_iff.mp h).1
    rw [List.length_take] at h1
    have h2 : m < n := by omega
    exact ⟨h2, by rw [List.getElem?_take_of_lt h2] at h; exact h⟩
  have ltI : ∀ {m : Nat} {a : Addr}, (ι.take n)[m]? = some a → ι[m]? = some a := fun {m a} h => by
    have h1 := (List.getElem?_eq_some_iff.mp h).1
    rw [List.length_take] at h1
    rw [List.getElem?_take_of_lt (by omega)] at h
    exact h
  refine ⟨R.sub, R.pro, R.dis, by rw [List.length_take, List.length_take, R.len], fun m c a h1 h2 => ?_, fun m c a h1 l h2 => R.npr m c a (lt h1).2 l (ltI h2), fun m k c c' a h1 h2 l1 l2 h3 h4 => R.nod m k c c' a (lt h1).2 (lt h2).2 l1 l2 (ltI h3) (ltI h4)⟩
  have hc := R.cell m c a (lt h1).2 (ltI h2)
  have hbc : c.below n = true := List.all_eq_true.mp hb c (List.mem_of_getElem? h1)
  cases c with
  | dead => trivial
  | lst xs =>
    obtain ⟨e1, vs, e2, e3⟩ := hc
    exact ⟨e1, vs, e2, e3.takeI hbc⟩
  | dct ks xs =>
    obtain ⟨e1, vs, e2, e3, e4⟩ := hc
    exact ⟨e1, vs, e2, e3, e4.takeI hbc⟩
  | obj k ns xs =>
    obtain ⟨e1, dx, vs, e2, e3, e4⟩ := hc
    exact ⟨e1, dx, vs, e2, e3, e4.takeI hbc⟩
  | tbl k => exact hc
/-- the promise of a def that does what φ tells -/
def spD (T : Tb) (n : Nat) (φ : List D → Sto → Res D) : Sp := fun vs H Q E => vs.length = n ∧ ∃ P ι F s ds, RelH T P ι F s H ∧ Rps T F ι ds vs ∧ Post T P (Rp T) Q (fun c H' => E (.ref (T.ca c)) none H') F ι (φ ds s)
def finO (n : Nat) : Out → Res D
  | .rt d s => cut n d s
  | .nx _ s => cut n .non s
  | .ex c _ s => cutX n c s
  | _ => .stuck
/-- a def: N names, n of them parameters -/
def mkF (N n : Nat) (g : DS) : List D → Sto → Res D := fun ds s => if ds.length = n then finO s.length (g (ds.map some ++ List.replicate (N - n) none) s) else .stuck
theorem takeG {F F' : Hp} {ι ι' : List Addr} {n : Nat} (g : Grow F ι F' ι') (h : ι.length = n) : Grow F ι F' (ι'.take n) := by
  obtain ⟨g1, m, rfl⟩ := g
  refine ⟨g1, [], ?_⟩
  rw [List.append_nil, List.take_append_of_le_length (by omega), List.take_of_length_le (by omega)]
theorem fin_ok {P : Hp} {ι : List Addr} {F : Hp} {s : Sto} {H : Hp} {Q : VK} {E : XK} {W : WX} {o : Out} (hW : ∀ c d σ H, E c d H → W c d σ H) (R : RelH T P ι F s H) (post : Post T P (Rp T) Q (fun c H' => E (.ref (T.ca c)) none H') F ι (finO s.length o)) :
    PostS T P { nx := fun _ H' => Q .non H', rt := Q } W F ι o := by
  have one : ∀ d s', Post T P (Rp T) Q (fun c H' => E (.ref (T.ca c)) none H') F ι (cut s.length d s') → ∀ v H' ι' F', Grow F ι F' ι' → RelH T P ι' F' s' H' → Rp T F' ι' d v → Q v H' := by
    intro d s' p v H' ι' F' g R' r
    unfold Mp.cut at p
    split at p
    · exact p v H' ι' F' g R' r
    · split at p
      · rename_i hb
        simp only [Bool.and_eq_true, decide_eq_true_eq] at hb
        exact p v H' _ F' (takeG g R.len) (R'.cut hb.2.2) (r.take hb.2.1)
      · exact p v H' ι' F' g R' r
  cases o with
  | rt d s' => exact one d s' post
  | nx δ s' => exact fun σ' H' ι' F' g R' _ => one .non s' post .non H' ι' F' g R' (by unfold Rp; rfl)
  | bk δ s' => exact post.elim
  | ct δ s' => exact post.elim
  | stuck => exact post.elim
  | ex c δ s' =>
    intro σ' H' ι' F' g R' _
    refine hW _ _ _ _ ?_
    have post' : Post T P (Rp T) Q (fun c H' => E (.ref (T.ca c)) none H') F ι (cutX s.length c s') := post
    unfold cutX at post'
    split at post'
    · exact post' H' ι' F' g R'
    · split at post'
      · rename_i hb
        simp only [Bool.and_eq_true, decide_eq_true_eq] at hb
        exact post' H' _ F' (takeG g R.len) (R'.cut hb.2)
      · exact post'.elim
theorem start_env {F : Hp} {ι : List Addr} {N : List Str} {ds : List D} {vs : List V} {n : Nat} (r : Rps T F ι ds vs) (hn : ds.length = n) : REnv T F ι (ds.map some ++ List.replicate (N.length - n) none) (L2.start N vs) := by
  have hl := r.len
  unfold L2.start
  refine ⟨by simp [hl]; omega, fun i d h => ?_⟩
  by_cases hi : i < ds.length
  · rw [List.getElem?_append_left (by simpa using hi), List.getElem?_map] at h
    cases e : ds[i]? with
    | none => rw [e] at h; cases h
    | some d' =>
      rw [e] at h
      cases h
      obtain ⟨v, h1, h2⟩ := r.get e
      refine ⟨v, ?_, h2⟩
      rw [List.getElem?_append_left (by simp; omega), List.getElem?_map, h1]
      rfl
  · rw [List.getElem?_append_right (by simpa using hi), List.getElem?_replicate] at h
    split at h <;> cases h
section
variable {P : Program} {w : World} {mg : Str → Option Value} {base : Heap}
theorem fn_d {x qual : Str} {params : Arguments} {body : List Stmt} {scope : Scope} {dvs : List V} {kws : List (Str × V)} {f : Addr} {fd : FuncData} {N ps : List Str} {k : Nat} {g : DS} (F : FunD T.K x qual params body scope dvs kws f fd) (Sc : FnScope N ps scope)
    (h : ∀ (cdv : Value) (A : Around) (outer : List PySem.Env) (s : Shared) (H : Hp) (E : XK), Room k (A.deeper (PyProof.Rows.envOfC qual scope s.heap.objs.size f cdv)) → PDb T (cxOf (L2.CX P w) P w T.K mg base N qual scope f cdv A outer s H E) body g) :
    FnOk P w T.K mg base (L2.CX P w) (k + 1) f fd ps (spD T ps.length (mkF N.length ps.length g)) := by
  refine F.ok Sc (fun vs H Q E h => h.1) fun cdv A outer s H vs Q E hr sp => ?_
  obtain ⟨hl, P0, ι, F0, st, ds, R, r, post⟩ := sp
  have tk : Takes (cxOf (L2.CX P w) P w T.K mg base N qual scope f cdv A outer s H E) (fun cls d _ H => E cls d H) := takes_of rfl rfl rfl rfl
  obtain ⟨t, p, d⟩ := h cdv A outer s H E hr _ _ _ tk (passes_of rfl)
  refine ⟨t, p, ?_⟩
  unfold mkF at post
  split at post
  · rename_i hd
    exact d _ _ _ _ _ _ _ _ R (start_env r hd) (fin_ok (fun _ _ _ _ h => h) R post)
  · exact post.elim
/-- a def that may be called by its name -/
structure Cl (T : Tb) (P : Program) (w : World) (mg : Str → Option Value) (base : Heap) (x : Str) (k n : Nat) (φ : List D → Sto → Res D) : Prop where
  ex : ∃ (f : Addr) (fd : FuncData) (ps : List Str), mg x = some (.ref f) ∧ PySem.W.keepIn T.K (.ref f) = true ∧ Binds T.K fd ps [] ∧ FnOk P w T.K mg base (L2.CX P w) k f fd ps (spD T n φ)
theorem Cl.up {x : Str} {j k n : Nat} {φ : List D → Sto → Res D} (c : Cl T P w mg base x j n φ) (h : j ≤ k) : Cl T P w mg base x k n φ := by
  obtain ⟨f, fd, ps, h1, h2, h3, h4⟩ := c.ex
  exact ⟨f, fd, ps, h1, h2, h3, h4.mono h⟩
end
variable {X : Cx}
def dCall (φ : List D → Sto → Res D) (fa : DA) : DE := fun δ s => (fa δ s).bind fun ds s1 => φ ds s1
theorem d_call {x : Str} {p pos : Pos} {e : Expr} {es : List Expr} {k j n : Nat} {φ : List D → Sto → Res D} {fa : DA} (c : Cl T X.prog X.w X.mg X.base x k n φ) (ha : PDa T X (e :: es) fa) (hr : Room j X.A) (hk : k ≤ j := by decide) (hn : (e :: es).length = n := by rfl) (hg : Gl X x := by rfl) (hK : X.K = T.K := by rfl)
    (hdb : (x == ("__debug__" : Str)) = false := by decide) (he : starEach (e :: es) X.env = (false, eval e X.env) :: starEach es X.env := by rfl) (hpl : (backTo pos (starEach es X.env)).any (·.1) = false := by rfl) :
    PDe T X (.Call (.Name x p) (e :: es) [] pos) (dCall φ fa) := fun pn xe W tk => by
  obtain ⟨t1, p1, d1⟩ := ha pn xe W tk
  obtain ⟨f, fd, ps, h1, h2, h3, h4⟩ := c.ex
  rw [← hK] at h2 h3 h4
  refine ⟨_, pe_callS (X := X.tr pn xe) h4 (hr.mono hk) hg h1 h2 h3 (fun σ => passAt tk σ) p1 hdb he hpl, fun σ H P ι F δ s Q R E post => ?_⟩
  show t1 σ H _
  refine den_then d1 R E post fun ds vs H1 ι1 F1 s1 g R1 E1 r1 post1 => ?_
  exact ⟨r1.2.trans hn, P, ι1, F1, s1, ds, R1, r1.1, post1⟩
end
end Mp
/-! # MpF -/
namespace Mp
open PySem PySem.Spec L2
/-! ## built-ins called by name -/
abbrev DB := List D → Sto → Res D
def dBi (op : DB) (fa : DA) : DE := fun δ s => (fa δ s).bind fun ds s1 => op ds s1
def DenB (T : Tb) (r : List V → Hp → VK → Prop) (op : DB) : Prop := ∀ ds vs H P ι F s Q E, RelH T P ι F s H → Rps T F ι ds vs → Post T P (Rp T) Q E F ι (op ds s) → r vs H Q
section
variable {T : Tb} {X : Cx}
theorem den_bi {W : WX} {r : List V → Hp → VK → Prop} {op : DB} {n : Nat} {t : TA} {fa : DA} (hb : DenB T r op) (d : DenG T (RpsN T n) W t fa) : DenG T (Rp T) W (tCB r t) (dBi op fa) := fun σ H P ι F δ s Q R E post => by
  show t σ H _
  refine den_then d R E post fun ds vs H1 ι1 F1 s1 g R1 E1 r1 post1 => ?_
  exact hb _ _ _ _ _ _ _ _ _ R1 r1.1 post1
theorem d_callB {x : Str} {p pos : Pos} {e : Expr} {es : List Expr} {id : String} {r : List V → Hp → VK → Prop} {op : DB} {fa : DA} (hc : ∀ pn xe, CallR (X.tr pn xe) (.builtin id) r) (hb : DenB T r op) (hm : X.mg x = none) (hv : bootBuiltins x = some (.builtin id)) (ha : PDa T X (e :: es) fa)
    (hg : Gl X x := by rfl) (hn : x ≠ "__name__" := by decide) (hdb : (x == ("__debug__" : Str)) = false := by decide)
    (he : starEach (e :: es) X.env = (false, eval e X.env) :: starEach es X.env := by rfl) (hpl : (backTo pos (starEach es X.env)).any (·.1) = false := by rfl) : PDe T X (.Call (.Name x p) (e :: es) [] pos) (dBi op fa) := fun pn xe W tk => by
  obtain ⟨t1, p1, d1⟩ := ha pn xe W tk
  exact ⟨_, pe_callB (X := X.tr pn xe) (hc pn xe) hg hm hv p1 hn hdb he hpl, den_bi hb d1⟩
theorem d_callT {x : Str} {p pos : Pos} {e : Expr} {es : List Expr} {id : String} {r : List V → Hp → VK → Prop} {op : DB} {fa : DA} (hc : ∀ pn xe, CallR (X.tr pn xe) (.type id) r) (hb : DenB T r op) (hm : X.mg x = none) (hv : bootBuiltins x = some (.type id)) (ha : PDa T X (e :: es) fa)
    (hg : Gl X x := by rfl) (hn : x ≠ "__name__" := by decide) (hdb : (x == ("__debug__" : Str)) = false := by decide)
    (he : starEach (e :: es) X.env = (false, eval e X.env) :: starEach es X.env := by rfl) (hpl : (backTo pos (starEach es X.env)).any (·.1) = false := by rfl) : PDe T X (.Call (.Name x p) (e :: es) [] pos) (dBi op fa) := fun pn xe W tk => by
  obtain ⟨t1, p1, d1⟩ := ha pn xe W tk
  exact ⟨_, pe_callTy (X := X.tr pn xe) (hc pn xe) hg hm hv p1 hn hdb he hpl, den_bi hb d1⟩
/-! ### len -/
def bLen : DB
  | [.str z], s => if z.length ≤ lim then .ok (.int z.length) s else .stuck
  | [x], s => match (lqOf s x).or (tpOf x) with
    | some xs => .ok (.int xs.length) s
    | none => .stuck
  | _, _ => .stuck
def rLen (K : PySem.W.Frag) : List V → Hp → VK → Prop := fun xs H Q => ∃ x n, xs = [x] ∧ LenV K x H n ∧ Q (.int n) H
theorem db_len : DenB T (rLen T.K) bLen := by
  intro ds vs H P ι F s Q E R r post
  unfold bLen at post
  split at post
  · obtain ⟨v, rfl, h1⟩ := rps1 r
    unfold Rp at h1
    subst h1
    split at post
    · rename_i hl
      refine ⟨_, _, rfl, ⟨by rw [S_len]; exact lim_le hl, rfl⟩, ?_⟩
      rw [S_len]
      exact post.here R (by unfold Rp; rfl)
    · exact post.elim
  · obtain ⟨v, rfl, h1⟩ := rps1 r
    split at post
    · rename_i xs h
      obtain ⟨a, us, rfl, h2, h3⟩ := lqtp_of R h1 h
      refine ⟨_, us.length, rfl, ?_, ?_⟩
      · rcases h2 with h2 | h2
        · exact .inl ⟨us, h2, rfl⟩
        · exact .inr ⟨us, h2, rfl⟩
      · rw [← h3.len]
        exact post.here R (by unfold Rp; rfl)
    · exact post.elim
  · exact post.elim
/-! ### any, all of truth values -/
def boolsOf : List D → Option (List Bool)
  | [] => some []
  | .bl b :: r => (boolsOf r).map (b :: ·)
  | _ => none
theorem bools_ok {F : Hp} {ι : List Addr} : ∀ {ds : List D} {vs : List V} {bs : List Bool}, Rps T F ι ds vs → boolsOf ds = some bs → vs = bs.map V.bl
  | [], vs, bs, r, e => by unfold Rps at r; subst r; cases e; rfl
  | d :: ds, vs, bs, r, e => by
    unfold Rps at r
    obtain ⟨v, us, rfl, h1, h2⟩ := r
    cases d with
    | bl b =>
      have e' : (boolsOf ds).map (b :: ·) = some bs := e
      cases q : boolsOf ds with
      | none => rw [q] at e'; cases e'
      | some cs =>
        rw [q] at e'
        cases e'
        unfold Rp at h1
        rw [h1, bools_ok h2 q]
        rfl
    | _ => cases e
def bAnyAll (f : List Bool → Bool) : DB
  | [x], s => match lqOf s x with
    | some xs => match boolsOf xs with
      | some bs => .ok (.bl (f bs)) s
      | none => .stuck
    | none => .stuck
  | _, _ => .stuck
abbrev bAny : DB := bAnyAll (·.any id)
abbrev bAll : DB := bAnyAll (·.all id)
theorem db_any : DenB T (rAny T.K) bAny := by
  intro ds vs H P ι F s Q E R r post
  unfold bAny bAnyAll at post
  split at post
  · obtain ⟨v, rfl, h1⟩ := rps1 r
    split at post
    · rename_i xs h
      split at post
      · rename_i bs hb
        obtain ⟨a, us, rfl, h2, h3⟩ := lq_of R h1 h
        rw [bools_ok h3 hb] at h2
        exact ⟨a, bs, rfl, h2, post.here R (by unfold Rp; rfl)⟩
      · exact post.elim
    · exact post.elim
  · exact post.elim
theorem db_all : DenB T (rAll T.K) bAll := by
  intro ds vs H P ι F s Q E R r post
  unfold bAll bAnyAll at post
  split at post
  · obtain ⟨v, rfl, h1⟩ := rps1 r
    split at post
    · rename_i xs h
      split at post
      · rename_i bs hb
        obtain ⟨a, us, rfl, h2, h3⟩ := lq_of R h1 h
        rw [bools_ok h3 hb] at h2
        exact ⟨a, bs, rfl, h2, post.here R (by unfold Rp; rfl)⟩
      · exact post.elim
    · exact post.elim
  · exact post.elim
/-! ### max, min of two -/
def b2I (g : Int → Int → Int) : DB
  | [.int a, .int b], s => .ok (.int (g a b)) s
  | _, _ => .stuck
abbrev bMax2 : DB := b2I fun i j => if j > i then j else i
abbrev bMin2 : DB := b2I fun i j => if j < i then j else i
theorem db_2I {g : Int → Int → Int} : DenB T (fun xs H Q => ∃ i j, xs = [.int i, .int j] ∧ Q (.int (g i j)) H) (b2I g) := by
  intro ds vs H P ι F s Q E R r post
  unfold b2I at post
  split at post
  · obtain ⟨v, u, rfl, h1, h2⟩ := rps2 r
    unfold Rp at h1 h2
    exact ⟨_, _, by rw [h1, h2], post.here R (by unfold Rp; rfl)⟩
  · exact post.elim
/-! ### isinstance -/
def tyOf (s : Sto) : D → Option String
  | .non => some "NoneType"
  | .bl _ => some "bool"
  | .int _ => some "int"
  | .str _ => some "str"
  | .lst _ => some "list"
  | .tup _ => some "tuple"
  | .loc n => match s[n]? with
    | some (.lst _) => some "list"
    | some (.dct _ _) => some "dict"
    | _ => none
  | .dct _ _ => some "dict"
  | _ => none
theorem ty_ok {P : Hp} {ι : List Addr} {F : Hp} {s : Sto} {H : Hp} (R : RelH T P ι F s H) {d : D} {v : V} {t : String} (r : Rp T F ι d v) (h : tyOf s d = some t) : TyX T.K H v (.type t) := by
  cases d with
  | non => unfold Rp at r; subst r; cases h; exact .base .non
  | bl b => unfold Rp at r; subst r; cases h; exact .base (.bl b)
  | int b => unfold Rp at r; subst r; cases h; exact .base (.int b)
  | str b => unfold Rp at r; subst r; cases h; exact .base (.str _)
  | lst xs => unfold Rp at r; obtain ⟨a, vs, rfl, e, _⟩ := r; cases h; exact .base (.lst (R.sub _ _ e))
  | tup xs => unfold Rp at r; obtain ⟨a, vs, rfl, e, _⟩ := r; cases h; exact .base (.tup (R.sub _ _ e))
  | dct ks xs =>
    unfold Rp at r
    obtain ⟨a, kvs, rfl, e, _⟩ := r
    cases h
    rcases e with e | ⟨o, e⟩
    · exact .base (.dK (R.sub _ _ e))
    · exact .fDict (R.sub _ _ e)
  | loc n =>
    unfold Rp at r
    obtain ⟨a, e1, rfl⟩ := r
    unfold tyOf at h
    dsimp only at h
    cases q : s[n]? with
    | none => rw [q] at h; cases h
    | some c =>
      rw [q] at h
      cases c with
      | lst xs => cases h; obtain ⟨_, vs, e, _⟩ := R.cell n _ a q e1; exact .base (.lst e)
      | dct ks xs => cases h; obtain ⟨_, vs, e, _⟩ := R.cell n _ a q e1; exact .base (.dK e)
      | _ => cases h
  | _ => cases h
def bIsi : DB
  | [x, .ty n], s => match tyOf s x with
    | some t => match kitB t n with
      | some b => .ok (.bl b) s
      | none => .stuck
    | none => .stuck
  | _, _ => .stuck
theorem db_isi : DenB T (rIsi T.K) bIsi := by
  intro ds vs H P ι F s Q E R r post
  unfold bIsi at post
  split at post
  · obtain ⟨v, u, rfl, h1, h2⟩ := rps2 r
    split at post
    · rename_i t ht
      split at post
      · rename_i b hb
        unfold Rp at h2
        subst h2
        exact ⟨v, _, _, _, b, rfl, .ty _, ty_ok R h1 ht, kit_ty hb, post.here R (by unfold Rp; rfl)⟩
      · exact post.elim
    · exact post.elim
  · exact post.elim
end
/-! ## the end of a law -/
theorem law_end {T : Tb} {k : Nat} {φ : List D → Sto → Res D} {H : Hp} {a : Addr} {ns : List Int} (hO : Only H) (hS : SqL T.K H a (ns.map V.int)) (h : φ [.scr ns] [] = .ok (.bl true) []) :
    spD T 1 φ [.ref a] H (fun v _ => v = .bl true) fun _ _ _ => False := by
  have R : RelH T (fun _ => none) [] H [] H := by
    refine ⟨fun _ _ h => h, fun _ _ h => ?_, fun _ _ h => ?_, rfl, fun n c a h => ?_, fun n c a h => ?_, fun n m c c' a h => ?_⟩
    · cases h
    · cases h
    all_goals simp at h
  refine ⟨rfl, fun _ => none, [], H, [], [.scr ns], R, .cons (by unfold Rp; exact ⟨a, rfl, hS⟩) .nil, ?_⟩
  rw [h]
  intro v H' ι' F' g R r
  unfold Rp at r
  exact r
theorem cx_none {P : Program} {w : World} {H : Hp} {s s' : Shared} {e : Value} (h : L2.CX P w [] H s (fun _ _ _ => False) e s') : False := by
  obtain ⟨_, _, _, _, _, _, _, _, _, _, _, _, h⟩ := h
  exact h
theorem law_walks {l : PySem.W.OpenLaw} {k : Nat} {q : Program} {lo : List Str} {XP : (Str → Option Value) → Heap → Prop} {YP : World → Heap → Prop} {d : DefRec} {x : Str} (hm : l.most = some 63) (hdf : d.params.defaults = []) (room : Room k callerA)
    (F : ∀ (w : World) (mg : Str → Option Value) (fa : Addr) (h : Heap), YP w h → h.Ns mainGlobals mg → mg d.name = some (.ref fa) →
      ∃ (K : PySem.W.Frag) (fd : FuncData) (sp : Sp), K.In h ∧ (∀ (s : Shared) (u : Value), BindsTo s fd ⟨[u], []⟩ [(x, u)]) ∧
        (∀ (H : Hp) (a : Addr) (ns : List Int), ns.length ≤ 63 → Only H → SqL K H a (ns.map V.int) → sp [.ref a] H (fun v _ => v = .bl true) fun _ _ _ => False) ∧
        ∀ base : Heap, K.In base → base.Ns mainGlobals mg → FnOk l.prog w K mg base (L2.CX l.prog w) k fa fd [x] sp) :
    PySem.W.WalkO q lo XP YP l.row.toRowW d [] (fun f vs => PySem.call f vs) := by
  refine Att.attach_call hm hdf fun w sA sB mg mb fa o pm cd doc a vs ns G Y ho hd hcd hmg hobj hin hlen hg => ?_
  obtain ⟨K, fd, sp, KX, bi, pr, fn⟩ := F w mg fa _ Y G.T.g hmg
  exact law_call KX G.T.g G.T.b G.T.builtins G.T.nolimit hg hobj hin (Nat.le_trans hlen (by rw [sizeLine_eq]; decide)) room fn bi (fun H hO hS => pr H a ns hlen hO hS) fun H e s' z => cx_none z
end Mp
/-! # MpG -/
namespace Mp
open PySem PySem.Spec L2 PyProof.Rows
/-! ## the head's look, with one more Bool -/
abbrev AlE : Type := He.AlD × Bool
def obsE (fa : List He.Fa) (fn : List He.DefD) (ex : PySem.W.Frag → Bool) (K : PySem.W.Frag) : AlE := (He.obsD fa fn K, ex K)
structure SaysE (fa : List He.Fa) (fn : List He.DefD) (ex : PySem.W.Frag → Bool) (K : PySem.W.Frag) : Prop where
  d : He.SaysD fa fn K
  more : ex K = true
def obsEG (n : Nat) (fa : List He.Fa) (fn : List He.DefD) (ex : PySem.W.Frag → Bool) (g : Addr → Option Obj) : AlE := obsE fa fn ex (He.frG g (He.asD g n))
def hookE (n : Nat) (fa : List He.Fa) (fn : List He.DefD) (ex : PySem.W.Frag → Bool) : PySem.W.Hook where
  α := AlE
  obs := fun s => obsEG n fa fn ex s.heap.get?
  val := fun _ => (He.valD fn, true)
  says := fun _ h => ∃ K : PySem.W.Frag, K.In h ∧ SaysE fa fn ex K
  of := fun _ _ e => ⟨_, He.frG_in, congrArg (fun z : AlE => z.1) e, congrArg (fun z : AlE => z.2) e⟩
  keeps := fun _ _ _ ⟨K, hK, c⟩ k => ⟨K, PySem.W.Frag.In.keeps hK k, c⟩
theorem obsEG_eq {n : Nat} {fa : List He.Fa} {fn : List He.DefD} {ex : PySem.W.Frag → Bool} {g : Addr → Option Obj} {s : Shared} (h : ∀ a, g a = s.heap.get? a) : obsEG n fa fn ex g = (hookE n fa fn ex).obs s := by
  have e : g = s.heap.get? := funext h
  rw [e] <;> rfl
/-! ## the classes of exceptions: par.getD k k is k's parent (k itself where there is none) -/
def ancF (par : List Nat) : Nat → Nat → Nat → Bool
  | 0, k, c => k == c
  | n + 1, k, c => k == c || (par.getD k k != k && ancF par n (par.getD k k) c)
def ancO (par : List Nat) (k c : Nat) : Option Bool := if k < par.length ∧ c < par.length then some (ancF par par.length k c) else none
/-- n1: so many of them have no __init__ of their own -/
structure ExT (K : PySem.W.Frag) (ca : Nat → Addr) (par : List Nat) (n1 : Nat) : Prop where
  exm : ∀ k c b, ancO par k c = some b → PySem.W.exmOne K (.ref (ca k)) (.ref (ca c)) = some b
  kit : ∀ k c b, ancO par k c = some b → PySem.W.kitOne K (.ref (ca k)) (.ref (ca c)) = some b
  kiv : ∀ k, k < par.length → PySem.W.kitOne K (.ref (ca k)) (.type "ValueError") = some true
  exc : ∀ k, k < par.length → ExcC K (ca k)
  mkx : ∀ k, k < n1 → PySem.W.excIn K (ca k) He.veBase "ValueError.__new__" = true ∧ PySem.W.keepIn K (.ref (ca k)) = true ∧ PySem.W.subIn K (.ref (ca k)) (.type "BaseException") = some true ∧ PySem.W.typeIn K (.ref (ca k)) = some (.type "type")
def exc1 (K : PySem.W.Frag) (D : Addr) : Bool :=
  decide (PySem.W.findIn K (.ref D) "__getattribute__" = some (some (.builtin "BaseException.__getattribute__"))) && (decide (PySem.W.findIn K (.ref D) "__getattr__" = some none) && (decide (PySem.W.subIn K (.ref D) (.type "BaseException") = some true) && (PySem.W.hasDictIn K D &&
  (decide (PySem.W.findIn K (.ref D) "__class__" = some (some (.builtin "object.__class__"))) && (decide (PySem.W.specialIn K (.builtin "object.__class__") "__get__" = some (some (.builtin "getset_descriptor.__get__"))) && (decide (PySem.W.takesIn K (.builtin "object.__class__") = some true) &&
  (decide (PySem.W.mroIn K D (.type "object") = some true) && decide (PySem.W.kitOne K (.ref D) (.type "ValueError") = some true))))))))
def mkx1 (K : PySem.W.Frag) (D : Addr) : Bool := PySem.W.excIn K D He.veBase "ValueError.__new__" && (PySem.W.keepIn K (.ref D) && (decide (PySem.W.subIn K (.ref D) (.type "BaseException") = some true) && decide (PySem.W.typeIn K (.ref D) = some (.type "type"))))
def exB (ca : PySem.W.Frag → Nat → Addr) (par : List Nat) (n1 : Nat) (K : PySem.W.Frag) : Bool := ((List.range n1).all fun k => mkx1 K (ca K k)) && (List.range par.length).all fun k => exc1 K (ca K k) && (List.range par.length).all fun c => decide (PySem.W.exmOne K (.ref (ca K k)) (.ref (ca K c)) = some (ancF par par.length k c)) && decide (PySem.W.kitOne K (.ref (ca K k)) (.ref (ca K c)) = some (ancF par par.length k c))
theorem exT_of {ca : PySem.W.Frag → Nat → Addr} {par : List Nat} {n1 : Nat} {K : PySem.W.Frag} (h0 : exB ca par n1 K = true) : ExT K (ca K) par n1 := by
  unfold exB at h0
  obtain ⟨hm, h⟩ := He.ba h0
  rw [List.all_eq_true] at h hm
  have one : ∀ k, k < par.length → exc1 K (ca K k) = true ∧ ∀ c, c < par.length → PySem.W.exmOne K (.ref (ca K k)) (.ref (ca K c)) = some (ancF par par.length k c) ∧ PySem.W.kitOne K (.ref (ca K k)) (.ref (ca K c)) = some (ancF par par.length k c) := fun k hk => by
    obtain ⟨h1, h2⟩ := He.ba (h k (List.mem_range.mpr hk))
    refine ⟨h1, fun c hc => ?_⟩
    rw [List.all_eq_true] at h2
    obtain ⟨h3, h4⟩ := He.ba (h2 c (List.mem_range.mpr hc))
    exact ⟨of_decide_eq_true h3, of_decide_eq_true h4⟩
  have two : ∀ k c b, ancO par k c = some b → k < par.length ∧ c < par.length ∧ ancF par par.length k c = b := fun k c b e => by
    unfold ancO at e
    split at e
    · rename_i hk
      exact ⟨hk.1, hk.2, Option.some.inj e⟩
    · cases e
  refine ⟨fun k c b e => ?_, fun k c b e => ?_, fun k hk => ?_, fun k hk => ?_, fun k hk => ?_⟩
  · obtain ⟨h1, h2, h3⟩ := two k c b e
    rw [← h3]; exact ((one k h1).2 c h2).1
  · obtain ⟨h1, h2, h3⟩ := two k c b e
    rw [← h3]; exact ((one k h1).2 c h2).2
  · have z := (one k hk).1
    unfold exc1 at z
    simp only [Bool.and_eq_true, decide_eq_true_eq] at z
    exact z.2.2.2.2.2.2.2.2
  · have z := (one k hk).1
    unfold exc1 at z
    simp only [Bool.and_eq_true, decide_eq_true_eq] at z
    obtain ⟨z1, z2, z3, z4, z5, z6, z7, z8, z9⟩ := z
    exact ⟨z1, z2, z3, z4, z5, z6, z7, z8⟩
  · have z := hm k (List.mem_range.mpr hk)
    unfold mkx1 at z
    simp only [Bool.and_eq_true, decide_eq_true_eq] at z
    exact z
/-! ## raise -/
def sRaise (c : Nat) : DS := fun δ s => .ex c δ s
section
variable {T : Tb} {X : Cx} {par : List Nat} {n1 : Nat}
theorem s_raise {x m : Str} {j : Nat} {p p2 pos pos' : Pos} (c : Nat) (x1 : ExT T.K T.ca par n1) (gC : X.mg x = some (.ref (T.ca c))) (hc : c < n1 := by decide) (hg : Gl X x := by rfl) (hdb : (x == ("__debug__" : Str)) = false := by decide) (hcalm : X.calm = true := by rfl) (hK : X.K = T.K := by rfl) :
    PDs T X (.Raise (some (.Call (.Name x p) [.Constant (.str m) j p2] [] pos)) none pos') (sRaise c) := fun pn xe W tk ow => by
  obtain ⟨h1, h2, h3, h4⟩ := x1.mkx c hc
  rw [← hK] at h1 h2 h3 h4
  refine ⟨_, ps_raise (X := X.tr pn xe) hcalm tk (pmk_own (X := X.tr pn xe) F.excBase_ValueError h1 gC h2 (raises_own h3 h4) hg hdb), fun En σ H P ι F δ s R E post => ?_⟩
  exact post σ H ι F (Grow.refl _ _) R E
end
/-! ## what the except suite holds is tracked -/
theorem Inv.track {X : Cx} {pins : List (Addr × Obj)} {σ : L2.St} {H : Hp} {s : Shared} {a : Addr} {cls : Value} {oe : Obj} {vs : Array Value} (I : Inv X pins σ H s) (ha : s.heap.get? a = some oe) (hz : Zc cls none oe) (hd : oe.data = .fields vs) (na : H a = none) (nL : a ≠ X.env.locals)
    (n0 : X.s_0.heap.get? a = none) (np : ∀ p ∈ X.pn ++ pins, p.1 ≠ a) : Inv X pins σ (upd H a (ExV cls a)) s := by
  have un : ∀ b, b ≠ a → upd H a (ExV cls a) b = H b := fun b h => upd_ne h
  refine ⟨I.ok, I.os, I.bare, ⟨I.base.keep, I.base.slot, fun b o e n hx => ?_, I.base.there, fun b xs e => ?_, fun b o u e => ?_, fun b ps e => ?_⟩, I.loc, I.cell, ?_, fun x c e => ?_, fun p hp => ?_, fun b u e => ?_, I.len⟩
  · rw [un b fun z => by subst z; rw [n0] at e; cases e]
    exact I.base.free b o e n hx
  · have q := I.base.tups b xs e
    rw [un b fun z => by subst z; rw [na] at q; cases q]
    exact q
  · have q := I.base.frzs b o u e
    rw [un b fun z => by subst z; rw [na] at q; cases q]
    exact q
  · obtain ⟨more, q⟩ := I.base.tbls b ps e
    rw [un b fun z => by subst z; rw [na] at q; cases q]
    exact ⟨more, q⟩
  · rw [un _ (Ne.symm nL)]
    exact I.free
  · rw [un c fun z => by
      subst z
      obtain ⟨v, o, ho, hd'⟩ := I.cell x c e
      rw [ha] at ho; cases ho
      rw [hd] at hd'; cases hd']
    exact I.freeC x c e
  · obtain ⟨e, n, ne, nf, d⟩ := I.pin p hp
    exact ⟨e, by rw [un _ (np p hp)]; exact n, ne, nf, d⟩
  · by_cases hb : b = a
    · subst hb
      rw [upd_same] at e
      cases e
      exact ⟨⟨oe, ha, hz, vs, hd⟩, ⟨oe, ha⟩, fun h1 h2 q k => by
        obtain ⟨o, q1, q2⟩ := q
        exact ⟨o, k o q1, q2⟩⟩
    · rw [un b hb] at e
      exact (I.hok b u e).stay (fun _ _ _ q => q) (fun c q => by rw [upd_ne (ne_of_none q na)]; exact q) fun c xs q => by rw [upd_ne (ne_of_none q na)]; exact q
/-- what the clause wishes of an exception of the body; i: the name's slot -/
def setO (i : Option Nat) (o : Option V) (σ : L2.St) : L2.St := match i with
  | some i => σ.set i o
  | none => σ
def wTr (K : PySem.W.Frag) (c : Value) (i : Option Nat) (ts : TS) (Wout : WX) (D : Ends) : WX := fun cls d σ H =>
  ∃ b, PySem.W.exmOne K cls c = some b ∧ (b = true → d = none ∧ ∀ a, H a = none → ts { nx := fun σ' H' => D.nx (setO i none σ') H', rt := D.rt, bk := fun σ' H' => D.bk (setO i none σ') H', ct := fun σ' H' => D.ct (setO i none σ') H' } (setO i (some (.ref a)) σ) (upd H a (ExV cls a))) ∧
    (b = false → Wout cls d σ H)
section
variable {X : Cx} {x n : Str} {c : Value} {i : Nat} {body suite : List Stmt} {b₀ : Stmt} {np pos pos' : Pos} {tb : WX → TS} {ts : TS} {Wout : WX}
theorem Inv.toSuite {pins : List (Addr × Obj)} {σ : L2.St} {H : Hp} {s : Shared} (I : Inv X pins σ H s) (a : Addr) : Inv (X.suite a (X.pn ++ pins)) [] σ H s :=
  ⟨I.ok.suite _ _, I.os, I.bare, I.base, I.loc, I.cell, I.free, I.freeC, fun p hp => I.pin p (by rw [List.append_nil] at hp; exact hp), I.hok, I.len⟩
theorem Inv.ofSuite {pins pn' : List (Addr × Obj)} {σ : L2.St} {H : Hp} {s : Shared} {a : Addr} (I : Inv (X.suite a (X.pn ++ pins)) pn' σ H s) (ok : X.Ok) : Inv X pins σ H s :=
  ⟨ok, I.os, I.bare, I.base, I.loc, I.cell, I.free, I.freeC, fun p hp => I.pin p (List.mem_append_left _ hp), I.hok, I.len⟩
theorem ps_tryT (hs : X.stack = X.env :: X.outer) (hf : X.env.frame = some X.env.locals) (hex : X.ex = []) (hN : X.N.Nodup) (hi : X.N[i]? = some n) (hln : X.env.kindOf n = some .local) (hc : Names X x c) (tk : Takes X Wout)
    (hb : ∀ (W : WX) (pn : List (Addr × Obj)) (xe : Value → Shared → Prop), Takes (X.tr pn xe) W → PassesOwn (model X.prog X.w) X.A X.env xe → PSs (X.tr pn xe) body (tb W))
    (hsu : ∀ (a : Addr) (pn : List (Addr × Obj)), PSs (X.suite a pn) (b₀ :: suite) ts) :
    PS X (.Try body [.ExceptHandler (some (.Name x np)) (some n) (b₀ :: suite) pos'] [] [] pos) (fun D σ H => tb (wTr X.K c (some i) ts Wout D) D σ H) := by
  refine ⟨fun pins s σ H D I h => ?_⟩
  have ok := I.ok
  have hfr : X.A.frames = some (X.env :: X.outer) := by rw [ok.frames, hs]
  have hloc : Loc X.env.scope n := .inl hln
  refine wpAny_Try_except ?_
  refine wpAny_mono ((hb (wTr X.K c (some i) ts Wout D) (X.pn ++ pins) (fun e s₁ => wpAny (model X.prog X.w) X.A (noteFrame e X.env) (fun _ s₂ => wpAny (model X.prog X.w) X.A (setFlight e none) (fun _ s₃ =>
    wpAny (model X.prog X.w) X.A (handleBy e X.env [.ExceptHandler (some (.Name x np)) (some n) (b₀ :: suite) pos']) (SP X pins D) X.xe s₃) X.xe s₂) X.xe s₁) (fun u s' xx => ?_) PassesOwn.looking).run [] s σ H D (I.toTry _) h) (fun f s1 hsp => ?_) (fun e s1 he => he)
  · obtain ⟨a, B, sI, pins', σ', H', cls, d, rfl, J', nb, up, sky, na, os, ag, b, hb1, hyes, hno⟩ := xx
    have J : Inv X pins σ' H' sI := J'.ofTry ok
    have sky' : Sky B (X.env :: X.outer) a (Zc cls d) X.env.locals s'.heap := by rw [← hs]; exact sky
    show wpAny (model X.prog X.w) X.A (noteFrame (.ref a) X.env) _ _ _
    refine Sky.land Zc.steady hfr hf sky' fun h3 fl3 up3 => ?_
    have J3 : Inv X pins σ' H' { s' with heap := h3 } := J.landed nb fl3.1 (up.trans up3) os ag
    obtain ⟨oe3, vs3, he3, hz3, hd3⟩ := fl3.there
    have notFr : ∀ {h : Heap} {o : Obj} {vs : Array Value}, h.FunFrames B (X.env :: X.outer) → h.get? a = some o → o.data = .fields vs → a ∉ frs (X.env :: X.outer) := fun {h o vs} ff e dd hm => by
      obtain ⟨_, o', e', hnf⟩ := ff.mem hm
      rw [e] at e'; cases e'
      exact hnf _ dd
    have nfr := notFr fl3.2.2.1 he3 hd3
    have nL : a ≠ X.env.locals := fun z => nfr (List.mem_filterMap.mpr ⟨X.env, List.mem_cons_self, by rw [hf, z]⟩)
    have nF : a ∉ X.fs := fun hm => by
      obtain ⟨e, he, q⟩ := List.mem_filterMap.mp hm
      exact nfr (List.mem_filterMap.mpr ⟨e, List.mem_cons_of_mem _ he, q⟩)
    have S3 := J3.suite he3 hd3 na nL nF
    refine wpAny_handleBy_cons (codeAny_handlers_test ?_) (by intro q; cases q)
    have LT : PySem.W.Looks (model X.prog X.w) h3 (typeOf (.ref a)) cls := fun A Q E s k q => wpAny_typeOf_ref (k _ _ he3) (by rw [hz3.1]; exact q)
    have LM := PySem.W.exm_one (M := model X.prog X.w) (J3.kIn) LT hb1
    have test : ∀ {Q : Value → Shared → Prop} {E : Value → Shared → Prop}, Q c { s' with heap := h3 } → wpAny (model X.prog X.w) (X.A.mark (some (.ref a))) (eval (.Name x np) X.env) Q E { s' with heap := h3 } := fun {Q E} q => by
      obtain ⟨hg, hdbg, hm | ⟨hm, hv, hnn⟩⟩ := hc
      · exact ld_glob (X := X.suite a ((a, oe3) :: (X.pn ++ pins))) S3 hg hm q hdbg
      · exact ld_blt (X := X.suite a ((a, oe3) :: (X.pn ++ pins))) S3 hg hm hv q hnn hdbg
    refine test (LM.here ?_)
    cases b with
    | true =>
      refine codeAny_handlers_suite_as ?_
      refine HandSPX.lands_againZ fl3 fun h4 fl4 up4 => ?_
      have J4 : Inv X pins σ' H' { s' with heap := h4 } := J.landed nb fl4.1 ((up.trans up3).trans up4) os ag
      obtain ⟨oe4, vs4, he4, hz4, hd4⟩ := fl4.there
      obtain ⟨rfl, hyes'⟩ := hyes rfl
      have nst : a ∉ frs X.stack := by rw [hs]; exact nfr
      have n0 : X.s_0.heap.get? a = none := by
        cases q : X.s_0.heap.get? a with
        | none => rfl
        | some o =>
          obtain ⟨o', e'⟩ := J.base.there a o q (by rw [hex]; exact fun z => by cases z)
          have z := nb a o' e' nst
          rw [fl4.2.1] at z; cases z
      have np' : ∀ p ∈ X.pn ++ pins, p.1 ≠ a := fun p hp z => by
        obtain ⟨e, _⟩ := J.pin p hp
        rw [z] at e
        have y := nb a _ e nst
        rw [fl4.2.1] at y; cases y
      have J5 := Inv.track J4 he4 hz4 hd4 na nL n0 np'
      refine store_ok (X := X.suite a (X.pn ++ pins)) (v := .ref a) (Inv.toSuite J5 a) hN hi hloc rfl (fun s5 S5 => ?_) (.inr hln)
      refine wpAny_mono ((hsu a (X.pn ++ pins)).run [] s5 _ _ _ S5 (hyes' a na)) (fun f s6 hsp => ?_) (fun _ _ z => False.elim z)
      have end_ : ∀ {σ6 : L2.St} {H6 : Hp} {Q : Shared → Prop}, Inv (X.suite a (X.pn ++ pins)) [] σ6 H6 s6 → (∀ s7, Inv X pins (σ6.set i none) H6 s7 → Q s7) →
          wpAny (model X.prog X.w) X.A (do bindName X.env n .none; unbindBehindTheSuite X.env n pos') (fun _ s7 => Q s7) X.xe s6 := fun {σ6 H6 Q} S6 hq => gone_ok (Inv.ofSuite S6 ok) hN hi hln hq
      cases f with
      | next =>
        obtain ⟨σ6, H6, S6, q6⟩ := hsp
        exact end_ S6 fun s7 J7 => ⟨_, _, J7, q6⟩
      | brk =>
        obtain ⟨σ6, H6, S6, q6⟩ := hsp
        exact end_ S6 fun s7 J7 => ⟨_, _, J7, q6⟩
      | cont =>
        obtain ⟨σ6, H6, S6, q6⟩ := hsp
        exact end_ S6 fun s7 J7 => ⟨_, _, J7, q6⟩
      | ret u =>
        obtain ⟨v6, σ6, H6, S6, r6, q6⟩ := hsp
        exact end_ S6 fun s7 J7 => ⟨_, _, _, J7, r6, q6⟩
    | false =>
      show wpAny _ X.A (handleBy (.ref a) X.env []) _ _ _
      refine wpAny_handleBy_nil ?_
      obtain ⟨k1, k2, k3, oe, vs, T, oT, ts', he, hz, hd, h1, hr⟩ := id fl3
      unfold PySem.passOn
      refine wpAny_bind (wpAny_field he hd h1 ?_)
      rw [if_neg (show ¬ ((Value.ref T == Value.none) = true) from by simp)]
      have fin : wpAny (model X.prog X.w) X.A (setFlight (.ref a) X.env.frame) (fun _ s4 => wpAny (model X.prog X.w) X.A (throw (.ref a) : Sem Flow) (SP X pins D) X.xe s4) X.xe { s' with heap := h3 } := by
        rw [hf]
        refine HandSPX.setFlight_upZ fl3 fun h4 hh4 up4 => wpAny_throw (tk _ _ ?_)
        exact ⟨a, B, sI, pins, σ', H', cls, d, rfl, J, nb, (up.trans up3).trans up4, .inr (.inr (by rw [hs]; exact hh4)), na, os, ag, hno rfl⟩
      first
        | exact wpAny_bind (wpAny_pure (wpAny_bind fin))
        | exact wpAny_bind fin
  · cases f with
    | next =>
      obtain ⟨σ', H', J', q⟩ := hsp
      exact wpAny_execs_nil ⟨σ', H', J'.ofTry ok, q⟩
    | brk =>
      obtain ⟨σ', H', J', q⟩ := hsp
      exact ⟨σ', H', J'.ofTry ok, q⟩
    | cont =>
      obtain ⟨σ', H', J', q⟩ := hsp
      exact ⟨σ', H', J'.ofTry ok, q⟩
    | ret u =>
      obtain ⟨v, σ', H', J', r, q⟩ := hsp
      exact ⟨v, σ', H', J'.ofTry ok, r, q⟩
end
/-! ## try -/
def canS (T : Tb) (W : WX) (g : DS) : TS := fun D σ H => ∃ P ι F δ s, RelH T P ι F s H ∧ REnv T F ι δ σ ∧ PostS T P D W F ι (g δ s)
theorem PSs.weak {X : Cx} {b : List Stmt} {t t' : TS} (h : PSs X b t) (k : ∀ D σ H, t' D σ H → t D σ H) : PSs X b t' := ⟨fun pins s σ H D I q => h.run pins s σ H D I (k _ _ _ q)⟩
theorem DenS.can {T : Tb} {W : WX} {t : TS} {g : DS} (d : DenS T W t g) {D : Ends} {σ : L2.St} {H : Hp} (h : canS T W g D σ H) : t D σ H := by
  obtain ⟨P, ι, F, δ, s, R, E, post⟩ := h
  exact d _ _ _ _ _ _ _ _ R E post
def setE (i : Option Nat) (o : Option D) (δ : Env) : Env := match i with
  | some i => δ.set i o
  | none => δ
def Out.unset (i : Option Nat) : Out → Out
  | .nx δ s => .nx (setE i none δ) s
  | .bk δ s => .bk (setE i none δ) s
  | .ct δ s => .ct (setE i none δ) s
  | .rt d s => .rt d s
  | _ => .stuck
def sTry (anc : Nat → Nat → Option Bool) (c : Nat) (i : Option Nat) (f g : DS) : DS := fun δ s => match f δ s with
  | .ex k δ1 s1 => match anc k c with
    | some true => (g (setE i (some (.exc k)) δ1) s1).unset i
    | some false => .ex k δ1 s1
    | none => .stuck
  | o => o
section
variable {T : Tb} {X : Cx} {par : List Nat} {n1 : Nat}
theorem REnv.setO {F : Hp} {ι : List Addr} {δ : Env} {σ : L2.St} {d : D} {v : V} (e : REnv T F ι δ σ) (h : Rp T F ι d v) (i : Option Nat) : REnv T F ι (setE i (some d) δ) (Mp.setO i (some v) σ) := by
  cases i with
  | none => exact e
  | some i => exact e.set h i
theorem REnv.unsetO {F : Hp} {ι : List Addr} {δ : Env} {σ : L2.St} (e : REnv T F ι δ σ) (i : Option Nat) : REnv T F ι (setE i none δ) (Mp.setO i none σ) := by
  cases i with
  | none => exact e
  | some i => exact e.unset i
theorem den_try {W : WX} {c : Nat} {i : Option Nat} {f g : DS} (x1 : ExT T.K T.ca par n1) : DenS T W (fun D σ H => canS T (wTr T.K (.ref (T.ca c)) i (canS T W0 g) W D) f D σ H) (sTry (ancO par) c i f g) := fun En σ H P ι F δ s R E post => by
  refine ⟨P, ι, F, δ, s, R, E, ?_⟩
  unfold sTry at post
  cases e : f δ s with
  | ex k δ1 s1 =>
    rw [e] at post
    intro σ' H' ι' F' g' R' E'
    dsimp only at post
    cases q : ancO par k c with
    | none => rw [q] at post; exact post.elim
    | some b =>
      refine ⟨b, x1.exm k c b q, fun hb => ⟨rfl, fun a na => ?_⟩, fun hb => ?_⟩
      · subst hb
        rw [q] at post
        dsimp only at post
        have R2 := R'.new na (ExV (.ref (T.ca k)) a)
        have g2 : Grow F' ι' (upd F' a (ExV (.ref (T.ca k)) a)) ι' := grow_new (R'.freeF na) _
        refine ⟨P, ι', _, setE i (some (.exc k)) δ1, s1, R2, (E'.mono g2).setO (by unfold Rp; exact ⟨a, rfl, upd_same⟩) i, ?_⟩
        have gg := g'.trans g2
        cases e2 : g (setE i (some (.exc k)) δ1) s1 with
        | nx δ2 s2 =>
          rw [e2] at post
          exact fun σ3 H3 ι3 F3 g3 R3 E3 => post _ H3 ι3 F3 (gg.trans g3) R3 (E3.unsetO i)
        | bk δ2 s2 =>
          rw [e2] at post
          exact fun σ3 H3 ι3 F3 g3 R3 E3 => post _ H3 ι3 F3 (gg.trans g3) R3 (E3.unsetO i)
        | ct δ2 s2 =>
          rw [e2] at post
          exact fun σ3 H3 ι3 F3 g3 R3 E3 => post _ H3 ι3 F3 (gg.trans g3) R3 (E3.unsetO i)
        | rt d s2 =>
          rw [e2] at post
          exact fun v H3 ι3 F3 g3 R3 r3 => post v H3 ι3 F3 (gg.trans g3) R3 r3
        | ex k2 δ2 s2 => rw [e2] at post; exact post.elim
        | stuck => rw [e2] at post; exact post.elim
      · subst hb
        rw [q] at post
        exact post σ' H' ι' F' g' R' E'
  | nx δ1 s1 => rw [e] at post; exact post
  | rt d s1 => rw [e] at post; exact post
  | bk δ1 s1 => rw [e] at post; exact post
  | ct δ1 s1 => rw [e] at post; exact post
  | stuck => rw [e] at post; exact post
theorem s_tryA {x n : Str} {body suite : List Stmt} {b₀ : Stmt} {np pos pos' : Pos} {f g : DS} (c i : Nat) (x1 : ExT T.K T.ca par n1) (hN : X.N.Nodup) (gC : X.mg x = some (.ref (T.ca c))) (hb : PDb T X body f) (hsu : ∀ (a : Addr) (pn : List (Addr × Obj)), PDb T (X.suite a pn) (b₀ :: suite) g)
    (hi : X.N[i]? = some n := by rfl) (hln : X.env.kindOf n = some .local := by rfl) (hg : Gl X x := by rfl) (hdb : (x == ("__debug__" : Str)) = false := by decide) (hs : X.stack = X.env :: X.outer := by rfl) (hf : X.env.frame = some X.env.locals := by rfl) (hex : X.ex = [] := by rfl) (hK : X.K = T.K := by rfl) :
    PDs T X (.Try body [.ExceptHandler (some (.Name x np)) (some n) (b₀ :: suite) pos'] [] [] pos) (sTry (ancO par) c (some i) f g) := fun pn xe W tk ow => by
  have hK' : (X.tr pn xe).K = T.K := hK
  have key := ps_tryT (X := X.tr pn xe) (x := x) (n := n) (c := .ref (T.ca c)) (i := i) (body := body) (suite := suite) (b₀ := b₀) (np := np) (pos := pos) (pos' := pos') (tb := fun W' => canS T W' f) (ts := canS T W0 g) (Wout := W) hs hf hex hN hi hln ⟨hg, hdb, .inl gC⟩ tk
    (fun W' pn' xe' tk' ow' => by
      obtain ⟨t, p, d⟩ := hb pn' xe' W' tk' ow'
      exact PSs.weak p fun D σ H q => d.can q)
    (fun a pn' => by
      obtain ⟨t, p, d⟩ := hsu a pn' pn' (fun _ _ => False) W0 takes0 PassesOwn.never
      exact PSs.weak p fun D σ H q => d.can q)
  rw [hK'] at key
  exact ⟨_, key, den_try x1⟩
end
/-! ## isinstance, exceptions among -/
theorem CallR.or {X : Cx} {f : Value} {r r' : List V → Hp → VK → Prop} (h : CallR X f r) (h' : CallR X f r') : CallR X f (fun vs H Q => r vs H Q ∨ r' vs H Q) := by
  intro pins s σ H xs us Q I rv q
  rcases q with q | q
  · exact h pins s σ H xs us Q I rv q
  · exact h' pins s σ H xs us Q I rv q
def rIsX (K : PySem.W.Frag) : List V → Hp → VK → Prop := fun xs H Q => ∃ (a D : Addr) (c : V) (cv : Value) (b : Bool), xs = [.ref a, c] ∧ H a = some (ExV (.ref D) a) ∧ ExcC K D ∧ ClsV c cv ∧ PySem.W.kitOne K (.ref D) cv = some b ∧ Q (.bl b) H
theorem call_isX {X : Cx} : CallR X (.builtin "isinstance") (rIsX X.K) := by
  intro pins s σ H xs us Q I r h
  obtain ⟨a, D, c, cv, b, rfl, hH, C, hcv, e, q⟩ := h
  obtain ⟨u1, u2, rfl, r1, r2⟩ := vals2 r
  cases (show u1 = Value.ref a from r1)
  have e2 := hcv.eq r2
  subst e2
  obtain ⟨⟨oe, hget, hz, vs, hv⟩, _⟩ := (show ObjOk X.prog X.w H s.heap a (ExV (.ref D) a) from I.hok a _ hH)
  have J : PySem.W.InstAt s.heap a oe D none := by
    obtain ⟨oc, od, oda, osl⟩ := oe
    obtain ⟨h1, h2⟩ := hz
    dsimp only at h1 h2 hv
    subst h1 h2 hv
    exact ⟨hget, rfl, rfl, trivial⟩
  exact PySem.W.kia_one (PySem.W.handS_kitx_exc C.hg C.hk C.hs C.hd C.ha C.hn C.ht C.hm) I.kIn J e (fun z => nomatch z) fun tk => ⟨.bl b, H, I.kept (t' := tk) fun _ _ z => z, rfl, q⟩
def rIsA (K : PySem.W.Frag) : List V → Hp → VK → Prop := fun xs H Q => rIsi K xs H Q ∨ rIsX K xs H Q
theorem call_isA {X : Cx} : CallR X (.builtin "isinstance") (rIsA X.K) := CallR.or call_isi call_isX
def bIsA (par : List Nat) : DB
  | [.exc k, .cls c], s => match ancO par k c with
    | some b => .ok (.bl b) s
    | none => .stuck
  | [.exc k, .ty n], s => if n = "ValueError" ∧ k < par.length then .ok (.bl true) s else .stuck
  | [x, .ty n], s => match tyOf s x with
    | some t => match kitB t n with
      | some b => .ok (.bl b) s
      | none => .stuck
    | none => .stuck
  | _, _ => .stuck
theorem db_isA {T : Tb} {par : List Nat} {n1 : Nat} (x1 : ExT T.K T.ca par n1) : DenB T (rIsA T.K) (bIsA par) := by
  intro ds vs H P ι F s Q E R r post
  unfold bIsA at post
  split at post
  · rename_i k c
    obtain ⟨v, u, rfl, h1, h2⟩ := rps2 r
    unfold Rp at h1 h2
    obtain ⟨a, rfl, h1⟩ := h1
    subst h2
    split at post
    · rename_i b hb
      have hk : k < par.length := by
        unfold ancO at hb
        split at hb
        · rename_i z; exact z.1
        · cases hb
      exact .inr ⟨a, T.ca k, .ref (T.ca c), .ref (T.ca c), b, rfl, R.sub _ _ h1, x1.exc _ hk, .own _, x1.kit _ _ _ hb, post.here R (by unfold Rp; rfl)⟩
    · exact post.elim
  · obtain ⟨v, u, rfl, h1, h2⟩ := rps2 r
    unfold Rp at h1 h2
    obtain ⟨a, rfl, h1⟩ := h1
    subst h2
    split at post
    · rename_i hk
      obtain ⟨rfl, hk⟩ := hk
      exact .inr ⟨a, _, _, _, true, rfl, R.sub _ _ h1, x1.exc _ hk, .ty _, x1.kiv _ hk, post.here R (by unfold Rp; rfl)⟩
    · exact post.elim
  · obtain ⟨v, u, rfl, h1, h2⟩ := rps2 r
    split at post
    · rename_i t ht
      split at post
      · rename_i b hb
        unfold Rp at h2
        subst h2
        exact .inl ⟨v, _, _, _, b, rfl, .ty _, ty_ok R h1 ht, kit_ty hb, post.here R (by unfold Rp; rfl)⟩
      · exact post.elim
    · exact post.elim
  · exact post.elim
end Mp
/-! # MpH -/
namespace Mp
open PySem PySem.Spec L2
/-! ## cells -/
section
variable {T : Tb} {P : Hp} {ι : List Addr} {F : Hp} {s : Sto} {H : Hp}
theorem grow_app (F : Hp) (ι : List Addr) (p : Addr) : Grow F ι F (ι ++ [p]) := ⟨fun _ _ h => h, [p], rfl⟩
/-- a new cell -/
theorem RelH.alloc (R : RelH T P ι F s H) {p : Addr} (hp : H p = none) {o : HO} {c : Cell} (hc : CellAt T (ι ++ [p]) F (upd H p o) p c) : RelH T P (ι ++ [p]) F (s ++ [c]) (upd H p o) := by
  have old : ∀ {n : Nat} {c' : Cell} {a : Addr}, s[n]? = some c' → (ι ++ [p])[n]? = some a → ι[n]? = some a := fun {n c' a} h1 h2 => by
    have := (List.getElem?_eq_some_iff.mp h1).1
    rw [List.getElem?_append_left (by rw [R.len]; exact this)] at h2
    exact h2
  have split_ : ∀ {n : Nat} {c' : Cell}, (s ++ [c])[n]? = some c' → s[n]? = some c' ∨ (n = s.length ∧ c' = c) := fun {n c'} h => by
    by_cases hn : n < s.length
    · rw [List.getElem?_append_left hn] at h; exact .inl h
    · rw [List.getElem?_append_right (Nat.le_of_not_lt hn)] at h
      have hl := (List.getElem?_eq_some_iff.mp h).1
      have e0 : n - s.length = 0 := by simpa using hl
      rw [e0] at h
      exact .inr ⟨by omega, (Option.some.inj h).symm⟩
  have newI : ∀ {a : Addr}, (ι ++ [p])[s.length]? = some a → a = p := fun {a} h => by
    rw [← R.len] at h
    simp at h
    exact h.symm
  have ne : ∀ {n : Nat} {c' : Cell} {a : Addr}, s[n]? = some c' → c'.live = true → ι[n]? = some a → a ≠ p := fun {n c' a} h1 l h2 => by
    obtain ⟨u, hu⟩ := (R.cell n c' a h1 h2).has l
    exact ne_of_none hu hp
  refine ⟨fun a u h => ?_, fun a u h => ?_, R.dis, by simp [R.len], fun n c' a h1 h2 => ?_, fun n c' a h1 l h2 => ?_, fun n m c1 c2 a h1 h2 l1 l2 h3 h4 => ?_⟩
  · have q := R.sub a u h
    rw [upd_ne (ne_of_none q hp)]; exact q
  · have q := R.pro a u h
    rw [upd_ne (ne_of_none q hp)]; exact q
  · rcases split_ h1 with h1 | ⟨rfl, rfl⟩
    · have h2' := old h1 h2
      refine (R.cell n c' a h1 h2').grow (grow_app _ _ _) (fun _ => rfl) (fun l => upd_ne (ne h1 l h2'))
    · rw [newI h2]; exact hc
  · rcases split_ h1 with h1 | ⟨rfl, rfl⟩
    · exact R.npr n c' a h1 l (old h1 h2)
    · rw [newI h2]; exact R.freeP hp
  · rcases split_ h1 with k1 | ⟨e1, f1⟩
    · rcases split_ h2 with k2 | ⟨e2, f2⟩
      · exact R.nod n m c1 c2 a k1 k2 l1 l2 (old k1 h3) (old k2 h4)
      · exact absurd (newI (e2 ▸ h4)) (ne k1 l1 (old k1 h3))
    · rcases split_ h2 with k2 | ⟨e2, f2⟩
      · exact absurd (newI (e1 ▸ h3)) (ne k2 l2 (old k2 h4))
      · rw [e1, e2]
/-- a cell is written -/
theorem RelH.setC (R : RelH T P ι F s H) {n : Nat} {a : Addr} {c c' : Cell} {o : HO} (hs : s[n]? = some c) (hl : c.live = true) (hi : ι[n]? = some a) (hc : CellAt T ι F (upd H a o) a c') : RelH T P ι F (s.set n c') (upd H a o) := by
  have hn := (List.getElem?_eq_some_iff.mp hs).1
  have hF : F a = none := by
    have q := R.cell n c a hs hi
    cases c with
    | dead => cases hl
    | lst _ => exact q.1
    | dct _ _ => exact q.1
    | obj _ _ _ => exact q.1
    | tbl _ => exact q.1
  have hP := R.npr n c a hs hl hi
  have at_ : ∀ {m : Nat} {d : Cell}, (s.set n c')[m]? = some d → (m = n ∧ d = c') ∨ (m ≠ n ∧ s[m]? = some d) := fun {m d} h => by
    by_cases e : n = m
    · subst e
      rw [List.getElem?_set_self hn] at h
      exact .inl ⟨rfl, (Option.some.inj h).symm⟩
    · rw [List.getElem?_set_ne e] at h
      exact .inr ⟨fun z => e z.symm, h⟩
  have ne : ∀ {m : Nat} {d : Cell} {b : Addr}, m ≠ n → s[m]? = some d → d.live = true → ι[m]? = some b → b ≠ a := fun {m d b} hm h l hb z => by
    subst z
    exact hm (R.nod m n d c b h hs l hl hb hi)
  have hio : ∀ {b : Addr}, ι[n]? = some b → b = a := fun {b} h => by rw [hi] at h; exact (Option.some.inj h).symm
  refine ⟨fun b u h => ?_, fun b u h => ?_, R.dis, by simp [R.len], fun m d b h1 h2 => ?_, fun m d b h1 l h2 => ?_, fun m k c1 c2 b h1 h2 l1 l2 h3 h4 => ?_⟩
  · rw [upd_ne (ne_of_none h hF)]; exact R.sub b u h
  · rw [upd_ne (ne_of_none h hP)]; exact R.pro b u h
  · rcases at_ h1 with ⟨rfl, rfl⟩ | ⟨hm, h1⟩
    · rw [hio h2]; exact hc
    · exact (R.cell m d b h1 h2).grow (Grow.refl _ _) (fun _ => rfl) fun l => upd_ne (ne hm h1 l h2)
  · rcases at_ h1 with ⟨rfl, rfl⟩ | ⟨hm, h1⟩
    · rw [hio h2]; exact hP
    · exact R.npr m d b h1 l h2
  · rcases at_ h1 with ⟨e1, f1⟩ | ⟨hm, k1⟩
    · rcases at_ h2 with ⟨e2, f2⟩ | ⟨hk, k2⟩
      · rw [e1, e2]
      · exact absurd (hio (e1 ▸ h3)) (ne hk k2 l2 h4)
    · rcases at_ h2 with ⟨e2, f2⟩ | ⟨hk, k2⟩
      · exact absurd (hio (e2 ▸ h4)) (ne hm k1 l1 h3)
      · exact R.nod m k c1 c2 b k1 k2 l1 l2 h3 h4
/-- a cell stays as it is from now on -/
theorem RelH.freeze (R : RelH T P ι F s H) {n : Nat} {a : Addr} {c : Cell} {o : HO} (hs : s[n]? = some c) (hl : c.live = true) (hi : ι[n]? = some a) (hF : F a = none) (hH : H a = some o) : RelH T P ι (upd F a o) (s.set n .dead) H := by
  have hn := (List.getElem?_eq_some_iff.mp hs).1
  have hP := R.npr n c a hs hl hi
  have at_ : ∀ {m : Nat} {d : Cell}, (s.set n .dead)[m]? = some d → d.live = true → m ≠ n ∧ s[m]? = some d := fun {m d} h l => by
    by_cases e : n = m
    · subst e
      rw [List.getElem?_set_self hn] at h
      cases h
      cases l
    · rw [List.getElem?_set_ne e] at h
      exact ⟨fun z => e z.symm, h⟩
  have g : Grow F ι (upd F a o) ι := grow_new hF o
  refine ⟨fun b u h => ?_, R.pro, fun b u h => ?_, by simp [R.len], fun m d b h1 h2 => ?_, fun m d b h1 l h2 => R.npr m d b (at_ h1 l).2 l h2, fun m k c1 c2 b h1 h2 l1 l2 h3 h4 => R.nod m k c1 c2 b (at_ h1 l1).2 (at_ h2 l2).2 l1 l2 h3 h4⟩
  · by_cases e : b = a
    · subst e; rw [upd_same] at h; cases h; exact hH
    · rw [upd_ne e] at h; exact R.sub b u h
  · rw [upd_ne (ne_of_none h hP)]; exact R.dis b u h
  · cases hd : d.live with
    | false =>
      cases d with
      | dead => trivial
      | _ => cases hd
    | true =>
      obtain ⟨hm, h1⟩ := at_ h1 hd
      refine (R.cell m d b h1 h2).grow g (fun l => upd_ne fun z => ?_) (fun _ => rfl)
      subst z
      exact hm (R.nod m n d c b h1 hs l hl h2 hi)
theorem lc_of (R : RelH T P ι F s H) {n : Nat} {a : Addr} {xs : List D} (hs : s[n]? = some (.lst xs)) (hi : ι[n]? = some a) : F a = none ∧ ∃ vs, H a = some (.lst vs) ∧ Rps T F ι xs vs := R.cell n _ a hs hi
end
/-- [..] as a cell -/
def dLstC (f : DA) : DE := fun δ s => (f δ s).bind fun xs s1 => if xs.length ≤ lim then .ok (.loc s1.length) (s1 ++ [.lst xs]) else .stuck
section
variable {T : Tb} {X : Cx}
theorem post_loc {P : Hp} {ι : List Addr} {F : Hp} {s : Sto} {H : Hp} {Q : V → Hp → Prop} {E : Nat → Hp → Prop} {p : Addr} {o : HO} {c : Cell} (post : Post T P (Rp T) Q E F ι (.ok (.loc s.length) (s ++ [c]))) (R : RelH T P ι F s H) (hp : H p = none)
    (hc : CellAt T (ι ++ [p]) F (upd H p o) p c) : Q (.ref p) (upd H p o) := by
  refine post (.ref p) _ _ _ (grow_app _ _ p) (R.alloc hp hc) ?_
  unfold Rp
  exact ⟨p, by rw [← R.len]; simp, rfl⟩
theorem d_lstC {es : List Expr} {pos : Pos} {f : DA} (h : PDa T X es f) : PDe T X (.List es pos) (dLstC f) := fun pn xe W tk => by
  obtain ⟨t1, p1, d1⟩ := h pn xe W tk
  refine ⟨_, pe_lst p1, fun σ H P ι F δ s Q R E post => ?_⟩
  show t1 σ H _
  refine den_then d1 R E post fun x y H1 ι1 F1 s1 g1 R1 E1 r1 post1 => ?_
  split at post1
  · rename_i hl
    refine ⟨by rw [← r1.1.len]; exact lim_le hl, fun p hp => post_loc post1 R1 hp ?_⟩
    exact ⟨R1.freeF hp, _, upd_same, r1.1.mono (grow_app _ _ _)⟩
  · exact post1.elim
/-- {}, not written -/
theorem d_dct0 {pos : Pos} : PDe T X (.Dict [] [] pos) (dC (.dct [] [])) := fun pn xe W tk => ⟨_, pe_dnewK, fun σ H P ι F δ s Q R E post p hp => by
  refine post.new R hp fun g => ?_
  unfold Rp
  exact ⟨p, [], rfl, .inl upd_same, rfl, .nil⟩⟩
/-! ## x[i] = e -/
def setAt (o i d : D) (s : Sto) : Option Sto := match o, i with
  | .loc n, .int k => match s[n]? with
    | some (.lst xs) => match ixN xs.length k with
      | some j => some (s.set n (.lst (xs.set j d)))
      | none => none
    | _ => none
  | _, _ => none
def sIxS (f fo fi : DE) : DS := fun δ s => (f δ s).out δ fun d s1 => (fo δ s1).out δ fun o s2 => (fi δ s2).out δ fun i s3 => match setAt o i d s3 with
  | some s4 => .nx δ s4
  | none => .stuck
theorem s_ixS {o i e : Expr} {tpos pos : Pos} {f fo fi : DE} (he : PDe T X e f) (ho : PDe T X o fo) (hi : PDe T X i fi)
    (ha : ∀ v, assign (.Subscript o i tpos) X.env v = (do
      let ov ← holding [v] (eval o X.env)
      let iv ← holding [v, ov] (eval i X.env)
      standAt tpos
      holding [v, ov, iv] (setItem ov iv v)
      release [v, ov, iv] []) := by intro _; rfl)
    (hs : swapsWithSole [.Subscript o i tpos] e pos.line X.env = pure false := by rfl) (hw : swappedStores [.Subscript o i tpos] e X.env = pure none := by rfl)
    (h1 : (assignEach [.Subscript o i tpos] X.env).map (·.2) = [assign (.Subscript o i tpos) X.env] := by rfl) : PDs T X (.Assign [.Subscript o i tpos] e pos) (sIxS f fo fi) := fun pn xe W tk _ => by
  obtain ⟨t1, p1, d1⟩ := he pn xe W tk
  obtain ⟨t2, p2, d2⟩ := ho pn xe W tk
  obtain ⟨t3, p3, d3⟩ := hi pn xe W tk
  refine ⟨_, ps_asg (X := X.tr pn xe) p1 (pg_sub (X := X.tr pn xe) p2 p3 set_list ha) hs hw h1, fun En σ H P ι F δ s R E post => ?_⟩
  show t1 σ H _
  refine dens_then d1 R E post fun x y H1 ι1 F1 s1 g1 R1 E1 r1 post1 => ?_
  show t2 σ H1 _
  refine dens_then d2 R1 E1 post1 fun x2 y2 H2 ι2 F2 s2 g2 R2 E2 r2 post2 => ?_
  refine dens_then d3 R2 E2 post2 fun x3 y3 H3 ι3 F3 s3 g3 R3 E3 r3 post3 => ?_
  have rx := (r1.mono g2).mono g3
  have ro := r2.mono g3
  cases q : setAt x2 x3 x s3 with
  | none => rw [q] at post3; exact post3.elim
  | some s4 =>
    rw [q] at post3
    unfold setAt at q
    split at q
    · rename_i n k
      split at q
      · rename_i xs hs3
        split at q
        · rename_i j hj
          cases q
          unfold Rp at ro r3
          obtain ⟨a, e1, rfl⟩ := ro
          obtain ⟨h1, vs, h2, h3⟩ := lc_of R3 hs3 e1
          refine ⟨a, vs, k, j, rfl, r3, h2, by rw [← h3.len]; exact hj, ?_⟩
          exact post3 σ _ ι3 F3 (Grow.refl _ _) (R3.setC hs3 rfl e1 ⟨h1, _, upd_same, Rps.set rx j h3⟩) E3
        · cases q
      · cases q
    · cases q
/-! ## a slot's cell stays as it is from now on -/
def frzD (s : Sto) : D → Option (D × Sto)
  | .loc n => match s[n]? with
    | some (.lst xs) => some (.lst xs, s.set n .dead)
    | some (.dct ks xs) => some (.dct ks xs, s.set n .dead)
    | some (.obj c ns xs) => some (.obj c ns xs, s.set n .dead)
    | _ => none
  | d => some (d, s)
def sFrz (i : Nat) : DS := fun δ s => match δ[i]? with
  | some (some d) => match frzD s d with
    | some (d', s') => .nx (δ.set i (some d')) s'
    | none => .nx δ s
  | _ => .nx δ s
theorem frz_ok {P : Hp} {ι : List Addr} {F : Hp} {s s' : Sto} {H : Hp} {d d' : D} {v : V} (R : RelH T P ι F s H) (r : Rp T F ι d v) (h : frzD s d = some (d', s')) : ∃ F', Grow F ι F' ι ∧ RelH T P ι F' s' H ∧ Rp T F' ι d' v := by
  unfold frzD at h
  split at h
  · rename_i n
    unfold Rp at r
    obtain ⟨a, e1, rfl⟩ := r
    split at h
    · rename_i xs hs
      cases h
      obtain ⟨h1, vs, h2, h3⟩ := R.cell _ _ _ hs e1
      refine ⟨upd F a (.lst vs), grow_new h1 _, R.freeze hs rfl e1 h1 h2, ?_⟩
      unfold Rp
      exact ⟨a, vs, rfl, upd_same, h3.mono (grow_new h1 _)⟩
    · rename_i ks xs hs
      cases h
      obtain ⟨h1, kvs, h2, h3, h4⟩ := R.cell _ _ _ hs e1
      refine ⟨upd F a (.dK kvs), grow_new h1 _, R.freeze hs rfl e1 h1 h2, ?_⟩
      unfold Rp
      exact ⟨a, kvs, rfl, .inl upd_same, h3, h4.mono (grow_new h1 _)⟩
    · rename_i c ns xs hs
      cases h
      obtain ⟨h1, dx, fs, h2, h3, h4⟩ := R.cell _ _ _ hs e1
      refine ⟨upd F a (.ins (T.ca c) dx fs), grow_new h1 _, R.freeze hs rfl e1 h1 h2, ?_⟩
      unfold Rp
      exact ⟨a, dx, fs, rfl, upd_same, h3, h4.mono (grow_new h1 _)⟩
    · cases h
  · cases h
    exact ⟨F, Grow.refl _ _, R, r⟩
/-- ahead of the rest of a block -/
theorem b_frz {rest : List Stmt} {g : DS} (i : Nat) (h : PDb T X rest g) : PDb T X rest (sSeq (sFrz i) g) := fun pn xe W tk ow => by
  obtain ⟨t1, p1, d1⟩ := h pn xe W tk ow
  refine ⟨t1, p1, fun En σ H P ι F δ s R E post => ?_⟩
  unfold sSeq sFrz at post
  cases q : δ[i]? with
  | none => rw [q] at post; exact d1 _ _ _ _ _ _ _ _ R E post
  | some o =>
    cases o with
    | none => rw [q] at post; exact d1 _ _ _ _ _ _ _ _ R E post
    | some d =>
      rw [q] at post
      dsimp only at post
      cases hz : frzD s d with
      | none => rw [hz] at post; exact d1 _ _ _ _ _ _ _ _ R E post
      | some z =>
        obtain ⟨d', s'⟩ := z
        rw [hz] at post
        obtain ⟨v, e1, e2⟩ := E.at_ i d q
        obtain ⟨F', g', R', r'⟩ := frz_ok R e2 hz
        have E' := (E.mono g').set r' i
        have hl := (List.getElem?_eq_some_iff.mp e1).1
        have es : σ.set i (some v) = σ := by
          refine List.ext_getElem? fun j => ?_
          by_cases c : i = j
          · subst c; rw [List.getElem?_set_self hl, e1]
          · rw [List.getElem?_set_ne c]
        rw [es] at E'
        exact d1 _ _ _ _ _ _ _ _ R' E' (PostS.mono g' post)
/-! ## o.m(..) of a built-in's method -/
abbrev DM := D → List D → Sto → Res D
def recvTy (s : Sto) : D → Option String
  | .str _ => some "str"
  | .int _ => some "int"
  | .lst _ => some "list"
  | .scr _ => some "list"
  | .loc n => match s[n]? with
    | some (.lst _) => some "list"
    | some (.dct _ _) => some "dict"
    | _ => none
  | _ => none
def DenM (T : Tb) (r : V → List V → Hp → VK → Prop) (op : DM) : Prop := ∀ d ds v vs H P ι F s Q E, RelH T P ι F s H → Rp T F ι d v → Rps T F ι ds vs → Post T P (Rp T) Q E F ι (op d ds s) → r v vs H Q
def dMt (ty : String) (op : DM) (f : DE) (fa : DA) : DE := fun δ s => (f δ s).bind fun x s1 => if recvTy s1 x = some ty then (fa δ s1).bind fun xs s2 => op x xs s2 else .stuck
theorem tyV_of {P : Hp} {ι : List Addr} {F : Hp} {s : Sto} {H : Hp} {d : D} {v : V} {ty : String} (R : RelH T P ι F s H) (r : Rp T F ι d v) (h : recvTy s d = some ty) : tyV T.K ty v H := by
  unfold recvTy at h
  split at h
  · unfold Rp at r; subst r; cases h; rfl
  · unfold Rp at r; subst r; cases h; rfl
  · unfold Rp at r
    obtain ⟨a, vs, rfl, e, _⟩ := r
    cases h
    exact .inl ⟨rfl, vs, SqL.of (R.sub _ _ e)⟩
  · unfold Rp at r
    obtain ⟨a, rfl, e⟩ := r
    cases h
    exact .inl ⟨rfl, _, sql_mono R.sub e⟩
  · unfold Rp at r
    obtain ⟨a, e1, rfl⟩ := r
    split at h
    · rename_i xs hs
      cases h
      obtain ⟨_, vs, h2, _⟩ := R.cell _ _ _ hs e1
      exact .inl ⟨rfl, vs, SqL.of h2⟩
    · rename_i ks xs hs
      cases h
      obtain ⟨_, kvs, h2, _⟩ := R.cell _ _ _ hs e1
      exact .inr (.inr (.inl ⟨rfl, .inl ⟨kvs, h2⟩⟩))
    · cases h
  · cases h
theorem d_mt {o e : Expr} {es : List Expr} {name : Str} {apos cpos : Pos} {ty id : String} {r : V → List V → Hp → VK → Prop} {op : DM} {f : DE} {fa : DA} (pa : PlainAttrs ty) (slot : Slot ty name id) (hty : typeOf (.builtin id) = pure (.type "method_descriptor")) (hm : ∀ pn xe, MtR (X.tr pn xe) id r) (hr : DenM T r op)
    (ho : PDe T X o f) (ha : PDa T X (e :: es) fa) (hbase : attributeBase o name X.env (eval o X.env) = eval o X.env := by rfl)
    (hfew : ((backTo cpos (starEach (e :: es) X.env)).all (fun x => !x.1) && (backToKw cpos (keywordEach [] X.env)).all (fun x => x.1.isSome)
      && decide ((e :: es).length + ([] : List Keyword).length + (if ([] : List Keyword).isEmpty then 0 else 1) < 30)) = true := by rfl)
    (hline : (apos.endLine == cpos.line) = true := by rfl) (hs : starEach (e :: es) X.env = (false, eval e X.env) :: starEach es X.env := by rfl) (hplain : (backTo cpos (starEach es X.env)).any (·.1) = false := by rfl) (hK : X.K = T.K := by rfl) :
    PDe T X (.Call (.Attribute o name apos) (e :: es) [] cpos) (dMt ty op f fa) := fun pn xe W tk => by
  obtain ⟨t1, p1, d1⟩ := ho pn xe W tk
  obtain ⟨t2, p2, d2⟩ := ha pn xe W tk
  have hK' : (X.tr pn xe).K = T.K := hK
  refine ⟨_, pe_bm (X := X.tr pn xe) pa slot hty (hm pn xe) p1 p2 hbase hfew hline hs hplain, fun σ H P ι F δ s Q R E post => ?_⟩
  rw [hK']
  show t1 σ H _
  refine den_then d1 R E post fun x y H1 ι1 F1 s1 g1 R1 E1 r1 post1 => ?_
  split at post1
  · rename_i ht
    refine ⟨tyV_of R1 r1 ht, ?_⟩
    refine den_then d2 R1 E1 post1 fun xs ys H2 ι2 F2 s2 g2 R2 E2 r2 post2 => ?_
    exact hr _ _ _ _ _ _ _ _ _ _ _ R2 (r1.mono g2) r2.1 post2
  · exact post1.elim
theorem d_mt0 {o : Expr} {name : Str} {apos cpos : Pos} {ty id : String} {r : V → List V → Hp → VK → Prop} {op : DM} {f : DE} (pa : PlainAttrs ty) (slot : Slot ty name id) (hty : typeOf (.builtin id) = pure (.type "method_descriptor")) (hm : ∀ pn xe, MtR (X.tr pn xe) id r) (hr : DenM T r op)
    (ho : PDe T X o f) (hbase : attributeBase o name X.env (eval o X.env) = eval o X.env := by rfl) (hline : (apos.endLine == cpos.line) = true := by rfl) (hK : X.K = T.K := by rfl) :
    PDe T X (.Call (.Attribute o name apos) [] [] cpos) (dMt ty op f aNil) := fun pn xe W tk => by
  obtain ⟨t1, p1, d1⟩ := ho pn xe W tk
  have hK' : (X.tr pn xe).K = T.K := hK
  refine ⟨_, pe_bm0 (X := X.tr pn xe) pa slot hty (hm pn xe) p1 hbase hline, fun σ H P ι F δ s Q R E post => ?_⟩
  rw [hK']
  show t1 σ H _
  refine den_then d1 R E post fun x y H1 ι1 F1 s1 g1 R1 E1 r1 post1 => ?_
  split at post1
  · rename_i ht
    exact ⟨tyV_of R1 r1 ht, hr _ _ _ _ _ _ _ _ _ _ _ R1 r1 .nil post1⟩
  · exact post1.elim
end
/-! ## lists' methods -/
def mAppend : DM
  | .loc n, [d], s => match s[n]? with
    | some (.lst xs) => if xs.length < lim then .ok .non (s.set n (.lst (xs ++ [d]))) else .stuck
    | _ => .stuck
  | _, _, _ => .stuck
def mIndex : DM
  | x, [y], s => match lqOf s x with
    | some xs => if (flatD y && xs.all flatD) = true then match xs.findIdx? (fun z => eqF z y) with
      | some j => .ok (.int (j : Nat)) s
      | none => .stuck
      else .stuck
    | none => .stuck
  | _, _, _ => .stuck
def mCount : DM
  | x, [y], s => match lqOf s x with
    | some xs => if (flatD y && xs.all flatD) = true then .ok (.int (xs.countP (fun z => eqF z y) : Nat)) s else .stuck
    | none => .stuck
  | _, _, _ => .stuck
def rCntF (K : PySem.W.Frag) : V → List V → Hp → VK → Prop := fun x xs H Q => ∃ (a : Addr) (ys : List V) (y : V), x = V.ref a ∧ xs = [y] ∧ SqL K H a ys ∧ flatV y = true ∧ ys.all flatV = true ∧ Q (.int (ys.countP fun z => eqV z y : Nat)) H
theorem cnt_eq {y : V} (fy : flatV y = true) : ∀ {ys : List V} {us : List Value}, Vals ys us → ys.all flatV = true → us.countP (eqU y) = ys.countP fun z => eqV z y
  | _, _, .nil, _ => rfl
  | z :: ys, u :: us, .cons r t, f => by
    rw [List.all_cons, Bool.and_eq_true] at f
    rw [List.countP_cons, List.countP_cons, cnt_eq fy t f.2, eqU_of r f.1]
theorem mt_lcntF {X : Cx} : MtR X "list.count" (rCntF X.K) := by
  intro pins s σ H x xs v us Q I rx rxs h
  obtain ⟨a, ys, y, rfl, rfl, hs, fy, fys, q⟩ := h
  cases rx
  obtain ⟨uy, rfl, ry⟩ := rxs.one
  obtain ⟨its, rv, ⟨⟨cls, dd, data, sl⟩, n, ho, hc, hdn, hd⟩, hlen⟩ := I.list hs
  simp only at hc hd
  subst hc hd
  refine PySem.call_meets PySem.F.slot_list_count ⟨_, ho, rfl⟩ PySem.F.entry_list_count (PySem.F.args_list_count_2 _ _)
    (SeqAt.list_countAt a its.toArray n dd sl uy (eqU y)) ⟨ho, fun u hu => mem_eqAt ry fy rv fys u (by simpa using hu), ?_⟩
  have ec : its.toArray.toList.countP (eqU y) = ys.countP fun z => eqV z y := by
    rw [List.toList_toArray]; exact cnt_eq fy rv fys
  refine ⟨.int (ys.countP fun z => eqV z y : Nat), H, I.tok _, ⟨s.toks, ?_⟩, q⟩
  show Value.int ((its.toArray.toList.countP (eqU y) : Nat) : Int) s.toks = Value.int ((ys.countP fun z => eqV z y : Nat) : Int) s.toks
  rw [ec]
section
variable {T : Tb}
theorem flats_ok {F : Hp} {ι : List Addr} : ∀ {ds : List D} {vs : List V}, Rps T F ι ds vs → ds.all flatD = true → vs.all flatV = true
  | [], vs, q, _ => by unfold Rps at q; subst q; rfl
  | d :: ds, vs, q, k => by
    unfold Rps at q
    obtain ⟨u, us, rfl, q1, q2⟩ := q
    rw [List.all_cons, Bool.and_eq_true] at k
    rw [List.all_cons, flat_ok q1 k.1, flats_ok q2 k.2]; rfl
theorem cntF_ok {F : Hp} {ι : List Addr} {x : D} {v : V} (r : Rp T F ι x v) (h : flatD x = true) : ∀ {ds : List D} {vs : List V}, Rps T F ι ds vs → ds.all flatD = true → (vs.countP fun z => eqV z v) = ds.countP fun z => eqF z x
  | [], vs, q, _ => by unfold Rps at q; subst q; rfl
  | d :: ds, vs, q, k => by
    unfold Rps at q
    obtain ⟨u, us, rfl, q1, q2⟩ := q
    rw [List.all_cons, Bool.and_eq_true] at k
    rw [List.countP_cons, List.countP_cons, cntF_ok r h q2 k.2, eqF_ok q1 r k.1 h]
theorem dm_append : DenM T rAppend mAppend := by
  intro d ds v vs H P ι F s Q E R r rs post
  unfold mAppend at post
  split at post
  · rename_i n d' _
    obtain ⟨u, rfl, h1⟩ := rps1 rs
    unfold Rp at r
    obtain ⟨a, e1, rfl⟩ := r
    split at post
    · rename_i xs hs
      split at post
      · rename_i hl
        obtain ⟨h2, us, h3, h4⟩ := lc_of R hs e1
        refine ⟨a, us, u, rfl, rfl, h3, by rw [← h4.len]; exact lim_lt (Nat.le_of_lt hl), ?_⟩
        exact post .non _ ι F (Grow.refl _ _) (R.setC hs rfl e1 ⟨h2, _, upd_same, h4.app (.cons h1 .nil)⟩) (by unfold Rp; rfl)
      · exact post.elim
    · exact post.elim
  · exact post.elim
theorem dm_index : DenM T (rIndex T.K) mIndex := by
  intro d ds v vs H P ι F s Q E R r rs post
  unfold mIndex at post
  split at post
  · obtain ⟨u, rfl, h1⟩ := rps1 rs
    split at post
    · rename_i xs h
      obtain ⟨a, us, rfl, h2, h3⟩ := lq_of R r h
      split at post
      · rename_i hf
        simp only [Bool.and_eq_true] at hf
        split at post
        · rename_i j hj
          rw [List.findIdx?_eq_some_iff_getElem] at hj
          obtain ⟨hj1, hj2, hj3⟩ := hj
          have hd : xs[j]? = some xs[j] := List.getElem?_eq_getElem hj1
          obtain ⟨w, e1, e2⟩ := h3.get hd
          have fd : ∀ {m : Nat} (hm : m < xs.length), flatD xs[m] = true := fun {m} hm => List.all_eq_true.mp hf.2 _ (List.getElem_mem hm)
          refine ⟨a, us, u, j, w, rfl, rfl, h2, flat_ok h1 hf.1, flats_ok h3 hf.2, e1, by rw [eqF_ok e2 h1 (fd hj1) hf.1]; exact hj2, fun m z' hm hz => ?_, post.here R (by unfold Rp; rfl)⟩
          have hm' : m < xs.length := by omega
          obtain ⟨w2, e3, e4⟩ := h3.get (List.getElem?_eq_getElem hm')
          rw [hz] at e3
          cases e3
          rw [eqF_ok e4 h1 (fd hm') hf.1]
          have := hj3 m hm
          simpa using this
        · exact post.elim
      · exact post.elim
    · exact post.elim
  · exact post.elim
theorem dm_count : DenM T (rCntF T.K) mCount := by
  intro d ds v vs H P ι F s Q E R r rs post
  unfold mCount at post
  split at post
  · obtain ⟨u, rfl, h1⟩ := rps1 rs
    split at post
    · rename_i xs h
      obtain ⟨a, us, rfl, h2, h3⟩ := lq_of R r h
      split at post
      · rename_i hf
        simp only [Bool.and_eq_true] at hf
        refine ⟨a, us, u, rfl, rfl, h2, flat_ok h1 hf.1, flats_ok h3 hf.2, ?_⟩
        rw [cntF_ok h1 hf.1 h3 hf.2]
        exact post.here R (by unfold Rp; rfl)
      · exact post.elim
    · exact post.elim
  · exact post.elim
/-! ## texts' methods -/
def un (x : Str) : List Nat := x.cps.toList
theorem S_un (x : Str) : S (un x) = x := by
  obtain ⟨a⟩ := x
  simp [S, un]
/-- of a text and a whole number, of a text and a text, of a text alone -/
def mTxtI (c : List Nat → Int → Bool) (g : Str → Int → Str) : DM
  | .str a, [.int i], s => if c a i = true then .ok (.str (un (g (S a) i))) s else .stuck
  | _, _, _ => .stuck
def mZfill : DM := mTxtI (fun _ i => PadOk i) Txt.zfill
theorem dm_zfill : DenM T (fun x xs H Q => ∃ (a : Str) (i : Int), x = .str a ∧ xs = [.int i] ∧ PadOk i = true ∧ Q (.str (Txt.zfill a i)) H) mZfill := by
  intro d ds v vs H P ι F s Q E R r rs post
  unfold mZfill mTxtI at post
  split at post
  · obtain ⟨u, rfl, h1⟩ := rps1 rs
    unfold Rp at r h1
    split at post
    · rename_i hp
      exact ⟨_, _, r, by rw [h1], hp, post.here R (by unfold Rp; rw [S_un])⟩
    · exact post.elim
  · exact post.elim
/-- text.index(text) -/
def mSIndex : DM
  | .str a, [.str b], s => match Builtin.Str.occurrences (S a) (S b) 0 (S a).length 1 with
    | i :: _ => .ok (.int (i : Nat)) s
    | [] => .stuck
  | _, _, _ => .stuck
theorem dm_sindex : DenM T (fun x xs H Q => ∃ a b i rest, x = .str a ∧ xs = [.str b] ∧ Builtin.Str.occurrences a b 0 a.length 1 = i :: rest ∧ Q (.int (i : Nat)) H) mSIndex := by
  intro d ds v vs H P ι F s Q E R r rs post
  unfold mSIndex at post
  split at post
  · obtain ⟨u, rfl, h1⟩ := rps1 rs
    unfold Rp at r h1
    split at post
    · rename_i i rest ho
      exact ⟨_, _, i, rest, r, by rw [h1], ho, post.here R (by unfold Rp; rfl)⟩
    · exact post.elim
  · exact post.elim
def mFind : DM
  | .str a, [.str b], s => .ok (.int (Txt.find (S a) (S b))) s
  | _, _, _ => .stuck
theorem dm_find : DenM T (fun x xs H Q => ∃ a b, x = .str a ∧ xs = [.str b] ∧ Q (.int (Txt.find a b)) H) mFind := by
  intro d ds v vs H P ι F s Q E R r rs post
  unfold mFind at post
  split at post
  · obtain ⟨u, rfl, h1⟩ := rps1 rs
    unfold Rp at r h1
    exact ⟨_, _, r, by rw [h1], post.here R (by unfold Rp; rfl)⟩
  · exact post.elim
def mStarts : DM
  | .str a, [.str b], s => .ok (.bl (Txt.startswith (S a) (S b))) s
  | _, _, _ => .stuck
theorem dm_starts : DenM T (fun x xs H Q => ∃ a b, x = .str a ∧ xs = [.str b] ∧ Q (.bl (Txt.startswith a b)) H) mStarts := by
  intro d ds v vs H P ι F s Q E R r rs post
  unfold mStarts at post
  split at post
  · obtain ⟨u, rfl, h1⟩ := rps1 rs
    unfold Rp at r h1
    exact ⟨_, _, r, by rw [h1], post.here R (by unfold Rp; rfl)⟩
  · exact post.elim
def mPart : DM
  | .str a, [.str b], s => if (!(b.length == 0) && decide (a.length ≤ lim)) = true then .ok (.tup [.str (un (Txt.partition (S a) (S b)).1), .str (un (Txt.partition (S a) (S b)).2.1), .str (un (Txt.partition (S a) (S b)).2.2)]) s else .stuck
  | _, _, _ => .stuck
theorem dm_part : DenM T (fun x xs H Q => ∃ a b, x = .str a ∧ xs = [.str b] ∧ (b.length == 0) = false ∧ a.length ≤ sizeLine ∧
    ∀ p, H p = none → Q (.ref p) (upd H p (.tup [.str (Txt.partition a b).1, .str (Txt.partition a b).2.1, .str (Txt.partition a b).2.2]))) mPart := by
  intro d ds v vs H P ι F s Q E R r rs post
  unfold mPart at post
  split at post
  · obtain ⟨u, rfl, h1⟩ := rps1 rs
    unfold Rp at r h1
    split at post
    · rename_i hc
      simp only [Bool.and_eq_true, Bool.not_eq_true', decide_eq_true_eq] at hc
      refine ⟨_, _, r, by rw [h1], by rw [S_len]; exact hc.1, by rw [S_len]; exact lim_le hc.2, fun p hp => ?_⟩
      refine post.new R hp fun g => ?_
      unfold Rp
      refine ⟨p, _, rfl, upd_same, .cons ?_ (.cons ?_ (.cons ?_ .nil))⟩ <;> (unfold Rp; rw [S_un])
    · exact post.elim
  · exact post.elim
def mRepl : DM
  | .str a, [.str b, .str c], s => .stuck
  | _, _, _ => .stuck
def strsOf : List D → Option (List (List Nat))
  | [] => some []
  | .str x :: r => (strsOf r).map (x :: ·)
  | _ => none
theorem strs_ok {F : Hp} {ι : List Addr} : ∀ {ds : List D} {vs : List V} {ys : List (List Nat)}, Rps T F ι ds vs → strsOf ds = some ys → vs = (ys.map S).map V.str
  | [], vs, ys, r, e => by unfold Rps at r; subst r; cases e; rfl
  | d :: ds, vs, ys, r, e => by
    unfold Rps at r
    obtain ⟨v, us, rfl, h1, h2⟩ := r
    cases d with
    | str x =>
      have e' : (strsOf ds).map (x :: ·) = some ys := e
      cases q : strsOf ds with
      | none => rw [q] at e'; cases e'
      | some cs =>
        rw [q] at e'
        cases e'
        unfold Rp at h1
        rw [h1, strs_ok h2 q]
        rfl
    | _ => cases e
def mJoin : DM
  | .str a, [x], s => match (lqOf s x).or (tpOf x) with
    | some xs => match strsOf xs with
      | some ys => if (ys.map List.length).sum + ys.length * a.length ≤ lim then .ok (.str (un (Txt.join (S a) (ys.map S)))) s else .stuck
      | none => .stuck
    | none => .stuck
  | _, _, _ => .stuck
theorem dm_join : DenM T (fun x xs H Q => ∃ a p, ∃ ys : List Str, x = .str a ∧ xs = [.ref p] ∧ (SqL T.K H p (ys.map V.str) ∨ SqT T.K H p (ys.map V.str)) ∧
    (ys.map (·.length)).sum + ys.length * a.length ≤ 16777216 ∧ Q (.str (Txt.join a ys)) H) mJoin := by
  intro d ds v vs H P ι F s Q E R r rs post
  unfold mJoin at post
  split at post
  · obtain ⟨u, rfl, h1⟩ := rps1 rs
    unfold Rp at r
    split at post
    · rename_i xs h
      split at post
      · rename_i ys hy
        split at post
        · rename_i hl
          obtain ⟨a, us, rfl, h2, h3⟩ := lqtp_of R h1 h
          rw [strs_ok h3 hy] at h2
          refine ⟨_, a, ys.map S, r, rfl, h2, ?_, post.here R (by unfold Rp; rw [S_un])⟩
          have e1 : ((ys.map S).map (·.length)) = ys.map List.length := by
            rw [List.map_map]
            exact List.map_congr_left fun y _ => S_len y
          rw [e1, List.length_map, S_len]
          exact Nat.le_trans hl (by unfold lim; decide)
        · exact post.elim
      · exact post.elim
    · exact post.elim
  · exact post.elim
theorem rps_strs {F : Hp} {ι : List Addr} : ∀ (ys : List Str), Rps T F ι (ys.map fun y => D.str (un y)) (ys.map V.str)
  | [] => .nil
  | y :: ys => .cons (by unfold Rp; rw [S_un]) (rps_strs ys)
def mSplit : DM
  | .str a, [.str b], s => if (!(b.length == 0) && decide (a.length + 2 ≤ lim)) = true then .ok (.lst ((Txt.split (S a) (S b)).map fun y => D.str (un y))) s else .stuck
  | .str a, [], s => if a.length + 2 ≤ lim then .ok (.lst ((Txt.words (S a)).map fun y => D.str (un y))) s else .stuck
  | _, _, _ => .stuck
theorem new_strs {P : Hp} {ι : List Addr} {F : Hp} {s : Sto} {H : Hp} {Q : VK} {E : Nat → Hp → Prop} {ys : List Str} (R : RelH T P ι F s H) (post : Post T P (Rp T) Q E F ι (.ok (.lst (ys.map fun y => D.str (un y))) s)) : rNewStrs ys H Q := fun p hp => by
  refine post.new R hp fun g => ?_
  unfold Rp
  exact ⟨p, _, rfl, upd_same, rps_strs ys⟩
theorem dm_split : DenM T (fun x xs H Q => ∃ a b, x = .str a ∧ xs = [.str b] ∧ (b.length == 0) = false ∧ a.length + 2 ≤ sizeLine ∧ rNewStrs (Txt.split a b) H Q) (fun x ds s => match ds with | [] => .stuck | _ => mSplit x ds s) := by
  intro d ds v vs H P ι F s Q E R r rs post
  dsimp only at post
  split at post
  · exact post.elim
  · unfold mSplit at post
    split at post
    · obtain ⟨u, rfl, h1⟩ := rps1 rs
      unfold Rp at r h1
      split at post
      · rename_i hc
        simp only [Bool.and_eq_true, Bool.not_eq_true', decide_eq_true_eq] at hc
        exact ⟨_, _, r, by rw [h1], by rw [S_len]; exact hc.1, by rw [S_len]; exact lim_le hc.2, new_strs R post⟩
      · exact post.elim
    · rename_i hne
      exact absurd rfl hne
    · exact post.elim
theorem dm_words : DenM T (fun x xs H Q => ∃ a, x = .str a ∧ xs = [] ∧ a.length + 2 ≤ sizeLine ∧ rNewStrs (Txt.words a) H Q) (fun x ds s => match ds with | [] => mSplit x [] s | _ => .stuck) := by
  intro d ds v vs H P ι F s Q E R r rs post
  dsimp only at post
  split at post
  · unfold mSplit at post
    split at post
    · rename_i h
      cases h
    · unfold Rps at rs
      unfold Rp at r
      split at post
      · rename_i hc
        exact ⟨_, r, rs, by rw [S_len]; exact lim_le hc, new_strs R post⟩
      · exact post.elim
    · exact post.elim
  · exact post.elim
def mStrip : DM
  | .str a, [], s => if a.length ≤ lim then .ok (.str (un (Txt.strip (S a)))) s else .stuck
  | _, _, _ => .stuck
theorem dm_strip : DenM T (fun x xs H Q => ∃ a, x = .str a ∧ xs = [] ∧ a.length ≤ sizeLine ∧ Q (.str (Txt.strip a)) H) mStrip := by
  intro d ds v vs H P ι F s Q E R r rs post
  unfold mStrip at post
  split at post
  · unfold Rps at rs
    unfold Rp at r
    split at post
    · rename_i hc
      exact ⟨_, r, rs, by rw [S_len]; exact lim_le hc, post.here R (by unfold Rp; rw [S_un])⟩
    · exact post.elim
  · exact post.elim
/-! ## int, str, divmod -/
def bInt : DB
  | [.int i], s => .ok (.int i) s
  | [.bl b], s => .ok (.int (if b then 1 else 0)) s
  | [.str z], s => match PySem.intText? (S z) with
    | some n => if z.length ≤ 640 then .ok (.int n) s else .stuck
    | none => .stuck
  | _, _ => .stuck
def rIntA : List V → Hp → VK → Prop := fun xs H Q => ((∃ i, xs = [.int i] ∧ Q (.int i) H) ∨ ∃ k, xs = [.bl k] ∧ Q (.int (if k then 1 else 0)) H) ∨ (∃ a n, xs = [.str a] ∧ PySem.intText? a = some n ∧ a.length ≤ 640 ∧ Q (.int n) H)
theorem call_intA {X : Cx} : CallR X (.type "int") rIntA := CallR.or call_int1 call_int_str
theorem db_int : DenB T rIntA bInt := by
  intro ds vs H P ι F s Q E R r post
  unfold bInt at post
  split at post
  · obtain ⟨v, rfl, h1⟩ := rps1 r
    unfold Rp at h1
    exact .inl (.inl ⟨_, by rw [h1], post.here R (by unfold Rp; rfl)⟩)
  · obtain ⟨v, rfl, h1⟩ := rps1 r
    unfold Rp at h1
    exact .inl (.inr ⟨_, by rw [h1], post.here R (by unfold Rp; rfl)⟩)
  · obtain ⟨v, rfl, h1⟩ := rps1 r
    unfold Rp at h1
    split at post
    · rename_i n hn
      split at post
      · rename_i hl
        exact .inr ⟨_, _, by rw [h1], hn, by rw [S_len]; exact hl, post.here R (by unfold Rp; rfl)⟩
      · exact post.elim
    · exact post.elim
  · exact post.elim
def strI (i : Int) : List Nat := un (toString i : Str)
def bStr : DB
  | [.int i], s => if i.natAbs.log2 < 1920 then .ok (.str (strI i)) s else .stuck
  | _, _ => .stuck
theorem db_str : DenB T (fun xs H Q => ∃ i, xs = [.int i] ∧ i.natAbs.log2 < 1920 ∧ Q (.str (toString i)) H) bStr := by
  intro ds vs H P ι F s Q E R r post
  unfold bStr at post
  split at post
  · obtain ⟨v, rfl, h1⟩ := rps1 r
    unfold Rp at h1
    split at post
    · rename_i hl
      exact ⟨_, by rw [h1], hl, post.here R (by unfold Rp strI; rw [S_un])⟩
    · exact post.elim
  · exact post.elim
def bDivmod : DB
  | [.int i, .int j], s => if (decide (0 < j) && decide (j < 1073741824)) = true then .ok (.tup [.int (i / j), .int (i % j)]) s else .stuck
  | _, _ => .stuck
theorem db_divmod : DenB T (fun xs H Q => ∃ i j, xs = [.int i, .int j] ∧ CDiv i j ∧ ∀ p, H p = none → Q (.ref p) (upd H p (.tup [.int (i / j), .int (i % j)]))) bDivmod := by
  intro ds vs H P ι F s Q E R r post
  unfold bDivmod at post
  split at post
  · obtain ⟨v, u, rfl, h1, h2⟩ := rps2 r
    unfold Rp at h1 h2
    split at post
    · rename_i hc
      simp only [Bool.and_eq_true, decide_eq_true_eq] at hc
      refine ⟨_, _, by rw [h1, h2], hc, fun p hp => ?_⟩
      refine post.new R hp fun g => ?_
      unfold Rp
      exact ⟨p, _, rfl, upd_same, .cons (by unfold Rp; rfl) (.cons (by unfold Rp; rfl) .nil)⟩
    · exact post.elim
  · exact post.elim
/-! ## over a text -/
theorem walks_str {F : Hp} {ι : List Addr} (z : List Nat) : Walks T (Its (S z)) (z.map fun c => D.str [c]) F ι := by
  have w := walk_str (z := S z)
  unfold Walks
  have e0 : (S z).cps.size = z.length := by simp [S]
  rw [e0] at w
  rw [List.length_map]
  refine w.mono (fun H hF => trivial) fun i H x H' hi hF y => ?_
  obtain ⟨e1, c, e2, e3⟩ := y
  have e4 : z[i]? = some c := by simpa [S] using e2
  exact ⟨.str [c], by rw [List.getElem?_map, e4]; rfl, .inl ⟨e1, by unfold Rp; rw [e3]; rfl⟩⟩
/-- a list, a tuple, a text that stays -/
def itAny (f : DE) : DIt := fun δ s => (f δ s).bind fun x s1 => match x with
  | .lst xs => .ok xs s1
  | .scr ns => .ok (ns.map D.int) s1
  | .tup xs => .ok xs s1
  | .str z => .ok (z.map fun c => D.str [c]) s1
  | _ => .stuck
theorem den_iS {W : WX} {t : TE} {f : DE} (h : DenG T (Rp T) W t f) {σ : L2.St} {H P : Hp} {ι : List Addr} {F : Hp} {δ : Env} {s : Sto} {Q : It → Hp → Prop} (R : RelH T P ι F s H) (E : REnv T F ι δ σ)
    (post : Post T P (fun F ι ds J => Walks T J ds F ι) Q (fun c H' => W (.ref (T.ca c)) none σ H') F ι ((f δ s).bind fun x s1 => match x with
      | .str z => .ok (z.map fun c => D.str [c]) s1
      | _ => .stuck)) : iStr t σ H Q := by
  show t σ H _
  refine den_then h R E post fun x y H1 ι1 F1 s1 g R1 E1 r1 post1 => ?_
  cases x with
  | str z =>
    unfold Rp at r1
    exact ⟨S z, r1, post1.here R1 (walks_str z)⟩
  | _ => exact post1.elim
theorem i_any {X : Cx} {tg e : Expr} {f : DE} (h : PDe T X e f) (hK : X.K = T.K := by rfl) : PDi T X tg e (itAny f) := fun pn xe W tk => by
  obtain ⟨t1, p1, d1⟩ := h pn xe W tk
  have hK' : (X.tr pn xe).K = T.K := hK
  refine ⟨_, PI.or (PI.or (pi_list p1) (pi_tup p1)) (pi_str p1), fun σ H P ι F δ s Q R E post => ?_⟩
  rw [hK']
  unfold itAny at post
  cases e : f δ s with
  | ok x s1 =>
    rw [e] at post
    cases x with
    | lst xs => exact .inl (.inl (den_iL d1 R E (by rw [e]; exact post)))
    | scr ns => exact .inl (.inl (den_iL d1 R E (by rw [e]; exact post)))
    | tup xs => exact .inl (.inr (den_iT d1 R E (by rw [e]; exact post)))
    | str z => exact .inr (den_iS d1 R E (by rw [e]; exact post))
    | _ => exact post.elim
  | exc c s1 => rw [e] at post; exact .inl (.inl (den_iL d1 R E (by rw [e]; exact post)))
  | stuck => rw [e] at post; exact post.elim
/-! ## in, of lists, tuples and texts -/
def oInA (neg : Bool) : DOp
  | .str [c], .str z, s => .ok (.bl (neg != decide (c ∈ z))) s
  | x, y, s => oIn neg x y s
theorem do_inA : DenOp T (orR rInS (rIn T.K false)) (oInA false) := by
  intro x y dx dy H P ι F s Q E R rx ry post
  unfold oInA at post
  split at post
  · exact .inl (do_inS x y _ _ H P ι F s Q E R rx ry post)
  · exact .inr (do_in x y _ _ H P ι F s Q E R rx ry post)
theorem do_notInA : DenOp T (orR rNotInS (rIn T.K true)) (oInA true) := by
  intro x y dx dy H P ι F s Q E R rx ry post
  unfold oInA at post
  split at post
  · exact .inl (do_notInS x y _ _ H P ι F s Q E R rx ry post)
  · exact .inr (do_in x y _ _ H P ι F s Q E R rx ry post)
theorem op_inA {X : Cx} : OpR X (compareOp .In) (orR rInS (rIn X.K false)) := OpR.or op_in_sign op_in_seq
theorem op_notInA {X : Cx} : OpR X (compareOp .NotIn) (orR rNotInS (rIn X.K true)) := OpR.or op_notIn_sign op_notIn_seq
/-! ## f-strings of texts and whole numbers -/
def dFmt (f : DE) : DE := fun δ s => (f δ s).bind fun x s1 => match x with
  | .str z => if z.length ≤ lim then .ok (.str z) s1 else .stuck
  | .int i => if i.natAbs.log2 < 1920 then .ok (.str (strI i)) s1 else .stuck
  | _ => .stuck
def dJs : List DE → List Nat → DE
  | [], acc, _, s => .ok (.str acc) s
  | f :: fs, acc, δ, s => (f δ s).bind fun x s1 => match x with
    | .str z => if (acc ++ z).length ≤ lim then dJs fs (acc ++ z) δ s1 else .stuck
    | _ => .stuck
section
variable {X : Cx}
theorem d_fmt {e : Expr} {pos : Pos} {f : DE} (h : PDe T X e f) : PDe T X (.FormattedValue e (-1) none pos) (dFmt f) := fun pn xe W tk => by
  obtain ⟨t1, p1, d1⟩ := h pn xe W tk
  refine ⟨_, pe_fmt p1, fun σ H P ι F δ s Q R E post => ?_⟩
  show t1 σ H _
  refine den_then d1 R E post fun x y H1 ι1 F1 s1 g1 R1 E1 r1 post1 => ?_
  split at post1
  · split at post1
    · rename_i hl
      unfold Rp at r1
      exact .inl ⟨_, r1, by rw [S_len]; exact lim_le hl, post1.here R1 (by unfold Rp; rfl)⟩
    · exact post1.elim
  · split at post1
    · rename_i hl
      unfold Rp at r1
      exact .inr ⟨_, r1, hl, post1.here R1 (by unfold Rp strI; rw [S_un])⟩
    · exact post1.elim
  · exact post1.elim
inductive PDj (T : Tb) (X : Cx) : List Expr → List DE → Prop where
  | nil : PDj T X [] []
  | cons {e : Expr} {f : DE} {es : List Expr} {fs : List DE} (h : PDe T X e f) (r : PDj T X es fs) : PDj T X (e :: es) (f :: fs)
def DenJ (T : Tb) (W : WX) (ts : List TE) (fs : List DE) : Prop := ∀ acc σ H P ι F δ s (Q : V → Hp → Prop), RelH T P ι F s H → REnv T F ι δ σ → Post T P (Rp T) Q (fun c H' => W (.ref (T.ca c)) none σ H') F ι (dJs fs acc δ s) → tJs ts (S acc) σ H fun out H' => Q (.str out) H'
theorem pj_of {es : List Expr} {fs : List DE} (h : PDj T X es fs) : ∀ pn xe W, Takes (X.tr pn xe) W → ∃ ts, PJ (X.tr pn xe) es ts ∧ DenJ T W ts fs := by
  induction h with
  | nil => exact fun pn xe W tk => ⟨_, .nil, fun acc σ H P ι F δ s Q R E post => post.here R (by unfold Rp; rfl)⟩
  | cons h r ih =>
    intro pn xe W tk
    obtain ⟨t1, p1, d1⟩ := h pn xe W tk
    obtain ⟨ts, p2, d2⟩ := ih pn xe W tk
    refine ⟨_, .cons p1 p2, fun acc σ H P ι F δ s Q R E post => ?_⟩
    unfold dJs at post
    show t1 σ H _
    refine den_then d1 R E post fun x y H1 ι1 F1 s1 g1 R1 E1 r1 post1 => ?_
    split at post1
    · split at post1
      · rename_i z hl
        unfold Rp at r1
        refine ⟨_, r1, by rw [S_cat, S_len]; exact lim_le hl, ?_⟩
        rw [S_cat]
        exact d2 _ _ _ _ _ _ _ _ _ R1 E1 post1
      · exact post1.elim
    · exact post1.elim
theorem d_joined {v1 v2 : Expr} {rest : List Expr} {pos : Pos} {fs : List DE} (h : PDj T X (v1 :: v2 :: rest) fs) : PDe T X (.JoinedStr (v1 :: v2 :: rest) pos) (dJs fs []) := fun pn xe W tk => by
  obtain ⟨ts, p, d⟩ := pj_of h pn xe W tk
  refine ⟨_, pe_joined p, fun σ H P ι F δ s Q R E post => ?_⟩
  exact d [] _ _ _ _ _ _ _ _ R E post
theorem d_joined1 {e : Expr} {pos : Pos} {f : DE} (h : PDe T X e f) : PDe T X (.JoinedStr [e] pos) f := fun pn xe W tk => by
  obtain ⟨t1, p1, d1⟩ := h pn xe W tk
  exact ⟨_, pe_joined1 p1, d1⟩
end
end
end Mp
/-! # MpI -/
namespace Mp
open PySem PySem.Spec L2
/-! ## text.replace of written texts, behind a first item that gives out a token -/
/-- a token is out behind it -/
def PEk (X : Cx) (e : Expr) (t : TE) : Prop := ∀ (pins : List (Addr × Obj)) (s : Shared) (σ : L2.St) (H : Hp) (Q : VK), Inv X pins σ H s → t σ H Q → wpAny (model X.prog X.w) X.A (eval e X.env) (fun v s1 => 1 ≤ s1.toks ∧ EP X pins σ Q v s1) X.xe s
theorem pek_str {X : Cx} {x : Str} {j : Nat} {pos : Pos} : PEk X (.Constant (.str x) j pos) (tC (.str x)) := fun pins s σ H Q I h => Calls.Constant_str ⟨by show 1 ≤ s.toks + 1; omega, .str x, H, I.tok _, ⟨_, rfl⟩, h⟩
theorem pek_op {X : Cx} {a b : Expr} {op : Operator} {r : R2} {ta tb : TE} {pos : Pos} (ho : OpR X (binaryOp op) r) (ha : PEk X a ta) (hb : PE X b tb) : PEk X (.BinOp a op b pos) (tOp r ta tb) := by
  intro pins s σ H Q I h
  refine wpAny_BinOp (thn (ha pins s σ H _ I h) fun v s1 q => ?_)
  obtain ⟨h1, x, H1, I1, r1, q1⟩ := q
  refine wpAny_mono (PySem.wpAny_toks (hb.run pins s1 σ H1 _ I1 q1)) (fun u s2 q => ?_) fun _ _ z => z.2
  obtain ⟨hk, y, H2, I2, r2, q2⟩ := q
  refine wpAny_mono (PySem.wpAny_toks (ho pins s2 σ H2 x y v u Q I2 r1 r2 q2)) (fun w s3 q => ?_) fun _ _ z => z.2
  exact ⟨Nat.le_trans h1 (Nat.le_trans hk q.1), q.2⟩
theorem pa_tok {X : Cx} {e : Expr} {es : List Expr} {te : TE} {ta : TA} (ha : PEk X e te) (hr : PAT X es ta) (hs : starEach (e :: es) X.env = (false, eval e X.env) :: starEach es X.env := by rfl) : PA X (e :: es) (tCons te ta) := by
  refine ⟨fun pos pins s σ H Q I h => ?_⟩
  rw [hs]
  show wpAny _ _ (spliced ((false, eval e X.env) :: backTo pos (starEach es X.env))) _ _ s
  refine Calls.spliced_cons (thn (ha pins s σ H _ I h) fun v s1 q => ?_)
  obtain ⟨h0, x, H1, I1, r1, q1⟩ := q
  exact thn (hr pos pins s1 σ H1 _ h0 I1 q1) fun us s2 ⟨xs, H2, I2, r2, q2⟩ => ⟨x :: xs, H2, I2, .cons r1 r2, q2⟩
def PDk (T : Tb) (X : Cx) (e : Expr) (f : DE) : Prop := ∀ pn xe W, Takes (X.tr pn xe) W → ∃ t, PEk (X.tr pn xe) e t ∧ DenG T (Rp T) W t f
def PDeT (T : Tb) (X : Cx) (e : Expr) (f : DE) : Prop := ∀ pn xe W, Takes (X.tr pn xe) W → ∃ t, PET (X.tr pn xe) e t ∧ DenG T (Rp T) W t f
def PDaT (T : Tb) (X : Cx) (es : List Expr) (f : DA) : Prop := ∀ pn xe W, Takes (X.tr pn xe) W → ∃ t, PAT (X.tr pn xe) es t ∧ DenG T (RpsN T es.length) W t f
def dRepl (y z : Str) (f : DE) : DE := fun δ s => (f δ s).bind fun x s1 => match x with
  | .str a => if a.length + (a.length + 1) * z.length ≤ lim then .ok (.str (un (Txt.replace (S a) y z))) s1 else .stuck
  | _ => .stuck
section
variable {T : Tb} {X : Cx}
theorem k_str {x : Str} {j pos} (cs : List Nat) (h : x = S cs) : PDk T X (.Constant (.str x) j pos) (dC (.str cs)) := fun pn xe W _ => ⟨_, pek_str, den_c fun _ _ => by unfold Rp; rw [h]⟩
theorem k_op {a b : Expr} {pos : Pos} {op : Operator} {r : R2} {o : DOp} {fa fb : DE} (hr : ∀ pn xe, OpR (X.tr pn xe) (binaryOp op) r) (ho : DenOp T r o) (ha : PDk T X a fa) (hb : PDe T X b fb) : PDk T X (.BinOp a op b pos) (dOp o fa fb) := fun pn xe W tk => by
  obtain ⟨t1, p1, d1⟩ := ha pn xe W tk
  obtain ⟨t2, p2, d2⟩ := hb pn xe W tk
  exact ⟨_, pek_op (hr pn xe) p1 p2, den_op ho d1 d2⟩
theorem eT_of {e : Expr} {f : DE} (h : PDe T X e f) : PDeT T X e f := fun pn xe W tk => by
  obtain ⟨t1, p1, d1⟩ := h pn xe W tk
  exact ⟨t1, CwR.PET.of p1, d1⟩
theorem eT_repl {o : Expr} {y z : Str} {j k : Nat} {c0 c1 apos pos : Pos} {f : DE} (ho : PDe T X o f) (hyz : (y == z) = false := by decide)
    (hst : starEach [.Constant (.str y) j c0, .Constant (.str z) k c1] X.env = [(false, eval (.Constant (.str y) j c0) X.env), (false, eval (.Constant (.str z) k c1) X.env)] := by rfl)
    (hbase : attributeBase o "replace" X.env (eval o X.env) = eval o X.env := by rfl) (hline : (apos.endLine == pos.line) = true := by rfl) :
    PDeT T X (.Call (.Attribute o "replace" apos) [.Constant (.str y) j c0, .Constant (.str z) k c1] [] pos) (dRepl y z f) := fun pn xe W tk => by
  obtain ⟨t1, p1, d1⟩ := ho pn xe W tk
  refine ⟨_, CwR.pet_replC (X := X.tr pn xe) p1 hyz hst hbase hline, fun σ H P ι F δ s Q R E post => ?_⟩
  show t1 σ H _
  refine den_then d1 R E post fun x y1 H1 ι1 F1 s1 g1 R1 E1 r1 post1 => ?_
  split at post1
  · split at post1
    · rename_i hl
      unfold Rp at r1
      exact ⟨_, r1, by rw [S_len]; exact Nat.le_trans hl (by unfold lim; decide), post1.here R1 (by unfold Rp; rw [S_un])⟩
    · exact post1.elim
  · exact post1.elim
theorem aT_nil : PDaT T X [] aNil := fun pn xe W _ => ⟨_, pat_nil, fun _ _ _ _ _ _ _ _ R _ post => post.here R ⟨.nil, rfl⟩⟩
theorem den_cons {W : WX} {n : Nat} {t1 : TE} {t2 : TA} {f : DE} {g : DA} (d1 : DenG T (Rp T) W t1 f) (d2 : DenG T (RpsN T n) W t2 g) : DenG T (RpsN T (n + 1)) W (tCons t1 t2) (aCons f g) := fun σ H P ι F δ s Q R E post => by
  show t1 σ H _
  refine den_then d1 R E post fun x y H1 ι1 F1 s1 g1 R1 E1 r1 post1 => ?_
  refine den_then d2 R1 E1 post1 fun xs ys H2 ι2 F2 s2 g2 R2 E2 r2 post2 => ?_
  exact post2.here R2 ⟨.cons (r1.mono g2) r2.1, congrArg Nat.succ r2.2⟩
theorem aT_cons {e : Expr} {es : List Expr} {f : DE} {g : DA} (he : PDeT T X e f) (hr : PDaT T X es g) (hs : starEach (e :: es) X.env = (false, eval e X.env) :: starEach es X.env := by rfl) : PDaT T X (e :: es) (aCons f g) := fun pn xe W tk => by
  obtain ⟨t1, p1, d1⟩ := he pn xe W tk
  obtain ⟨t2, p2, d2⟩ := hr pn xe W tk
  exact ⟨_, pat_cons (X := X.tr pn xe) p1 p2 hs, den_cons d1 d2⟩
theorem a_tok {e : Expr} {es : List Expr} {f : DE} {g : DA} (he : PDk T X e f) (hr : PDaT T X es g) (hs : starEach (e :: es) X.env = (false, eval e X.env) :: starEach es X.env := by rfl) : PDa T X (e :: es) (aCons f g) := fun pn xe W tk => by
  obtain ⟨t1, p1, d1⟩ := he pn xe W tk
  obtain ⟨t2, p2, d2⟩ := hr pn xe W tk
  exact ⟨_, pa_tok (X := X.tr pn xe) p1 p2 hs, den_cons d1 d2⟩
end
/-! ## a list, so many times -/
def oMulA : DOp
  | .int a, .int b, s => if cMul a b = true then .ok (.int (a * b)) s else .stuck
  | x, .int k, s => match lsOf s x with
    | some xs => if xs.length * k.toNat ≤ lim ∧ -(2 ^ 62) ≤ k ∧ k < 2 ^ 62 then .ok (.lst (List.replicate k.toNat xs).flatten) s else .stuck
    | none => .stuck
  | _, _, _ => .stuck
def rMulA : R2 := orR (rI CMul fun i j => .int (i * j)) rRep
theorem op_mulA {X : Cx} : OpR X (binaryOp .Mult) rMulA := OpR.or op_mul op_rep
section
variable {T : Tb}
theorem rps_rep {F : Hp} {ι : List Addr} {xs : List D} {vs : List V} (r : Rps T F ι xs vs) : ∀ k : Nat, Rps T F ι (List.replicate k xs).flatten (List.replicate k vs).flatten
  | 0 => .nil
  | k + 1 => by
    rw [List.replicate_succ, List.replicate_succ, List.flatten_cons, List.flatten_cons]
    exact r.app (rps_rep r k)
theorem do_mulA : DenOp T rMulA oMulA := by
  intro x y dx dy H P ι F s Q E R rx ry post
  unfold oMulA at post
  split at post
  · split at post
    · rename_i hc
      unfold Rp at rx ry
      refine .inl ⟨_, _, rx, ry, ?_, post.here R (by unfold Rp; rfl)⟩
      unfold cMul at hc
      unfold CMul
      simp only [Bool.or_eq_true, Bool.and_eq_true, decide_eq_true_eq] at hc
      exact hc
    · exact post.elim
  · split at post
    · rename_i xs hx
      split at post
      · rename_i hl
        obtain ⟨p, vs, rfl, e1, e2⟩ := ls_of R rx hx
        unfold Rp at ry
        refine .inr ⟨p, _, vs, rfl, ry, e1, by omega, by omega, by rw [← e2.len]; exact lim_le hl.1, fun l hp => ?_⟩
        refine post.new R hp fun g => ?_
        unfold Rp
        exact ⟨l, _, rfl, upd_same, (rps_rep e2 _).mono g⟩
      · exact post.elim
    · exact post.elim
  · exact post.elim
end
end Mp
/-! # MpJ -/
namespace Mp
open PySem PySem.Spec L2 PyProof.Rows
/-! ## objects of own classes -/
structure ObT (K : PySem.W.Frag) (ca : Nat → Addr) (fm : Nat → Str) (cs : List Nat) (nF : Nat) : Prop where
  cls : ∀ c ∈ cs, Cls K (ca c)
  noat : ∀ c ∈ cs, ∀ i, i < nF → NoAttr K (ca c) (fm i)
  inj : ∀ i, i < nF → ∀ j, j < nF → fm i = fm j → i = j
  ha : ∀ c ∈ cs, PySem.W.findIn K (.ref (ca c)) "__class__" = some (some (.builtin "object.__class__"))
  hn : PySem.W.specialIn K (.builtin "object.__class__") "__get__" = some (some (.builtin "getset_descriptor.__get__"))
  htk : PySem.W.takesIn K (.builtin "object.__class__") = some true
  hm : ∀ c ∈ cs, PySem.W.mroIn K (ca c) (.type "object") = some true
def ob1 (K : PySem.W.Frag) (C : Addr) (fm : Nat → Str) (nF : Nat) : Bool :=
  PySem.W.plainGet K C Str.empty && (PySem.W.hasDictIn K C && (PySem.W.plainOver K C && (decide (PySem.W.findIn K (.ref C) "__setattr__" = some (some (.builtin "object.__setattr__"))) &&
  (decide (PySem.W.findIn K (.ref C) "__class__" = some (some (.builtin "object.__class__"))) && (decide (PySem.W.mroIn K C (.type "object") = some true) && (List.range nF).all fun i => decide (PySem.W.findIn K (.ref C) (fm i) = some none))))))
def obB (ca : PySem.W.Frag → Nat → Addr) (fm : Nat → Str) (cs : List Nat) (nF : Nat) (K : PySem.W.Frag) : Bool :=
  decide (PySem.W.specialIn K (.builtin "object.__class__") "__get__" = some (some (.builtin "getset_descriptor.__get__"))) && (decide (PySem.W.takesIn K (.builtin "object.__class__") = some true) && cs.all fun c => ob1 K (ca K c) fm nF)
theorem obT_of {ca : PySem.W.Frag → Nat → Addr} {fm : Nat → Str} {cs : List Nat} {nF : Nat} {K : PySem.W.Frag} (h : obB ca fm cs nF K = true) (inj : ∀ i, i < nF → ∀ j, j < nF → fm i = fm j → i = j) : ObT K (ca K) fm cs nF := by
  unfold obB at h
  simp only [Bool.and_eq_true, decide_eq_true_eq] at h
  obtain ⟨h1, h2, h3⟩ := h
  rw [List.all_eq_true] at h3
  have one : ∀ c ∈ cs, ob1 K (ca K c) fm nF = true := h3
  have go : ∀ c ∈ cs, Cls K (ca K c) ∧ PySem.W.findIn K (.ref (ca K c)) "__class__" = some (some (.builtin "object.__class__")) ∧ PySem.W.mroIn K (ca K c) (.type "object") = some true ∧ ∀ i, i < nF → NoAttr K (ca K c) (fm i) := fun c hc => by
    have z := one c hc
    unfold ob1 at z
    simp only [Bool.and_eq_true, decide_eq_true_eq] at z
    obtain ⟨z1, z2, z3, z4, z5, z6, z7⟩ := z
    rw [List.all_eq_true] at z7
    exact ⟨⟨z1, z2, z3, z4⟩, z5, z6, fun i hi => of_decide_eq_true (p := PySem.W.findIn K (.ref (ca K c)) (fm i) = some none) (z7 i (List.mem_range.mpr hi))⟩
  exact ⟨fun c hc => (go c hc).1, fun c hc => (go c hc).2.2.2, inj, fun c hc => (go c hc).2.1, h1, h2, fun c hc => (go c hc).2.2.1⟩
def obOf (s : Sto) : D → Option (Nat × List Nat × List D)
  | .obj c ns vs => some (c, ns, vs)
  | .loc n => match s[n]? with
    | some (.obj c ns vs) => some (c, ns, vs)
    | _ => none
  | _ => none
/-- the field i -/
def lkF (i : Nat) : List Nat → List D → Option D
  | n :: ns, v :: vs => if n = i then some v else lkF i ns vs
  | _, _ => none
/-- the field i is set -/
def putN (i : Nat) : List Nat → List Nat
  | [] => [i]
  | n :: ns => if n = i then n :: ns else n :: putN i ns
def putD (i : Nat) (d : D) : List Nat → List D → List D
  | n :: ns, v :: vs => if n = i then d :: vs else v :: putD i d ns vs
  | _, _ => [d]
section
variable {T : Tb}
theorem ob_of {P : Hp} {ι : List Addr} {F : Hp} {s : Sto} {H : Hp} {d : D} {v : V} {c : Nat} {ns : List Nat} {vs : List D} (R : RelH T P ι F s H) (r : Rp T F ι d v) (h : obOf s d = some (c, ns, vs)) :
    ∃ a dx fs, v = .ref a ∧ H a = some (.ins (T.ca c) dx fs) ∧ fs.map (·.1) = ns.map T.fm ∧ Rps T F ι vs (fs.map (·.2)) := by
  unfold obOf at h
  split at h
  · cases h
    unfold Rp at r
    obtain ⟨a, dx, fs, h1, h2, h3, h4⟩ := r
    exact ⟨a, dx, fs, h1, R.sub _ _ h2, h3, h4⟩
  · unfold Rp at r
    obtain ⟨a, e1, rfl⟩ := r
    split at h
    · rename_i hs
      cases h
      obtain ⟨_, dx, fs, h2, h3, h4⟩ := R.cell _ _ _ hs e1
      exact ⟨a, dx, fs, rfl, h2, h3, h4⟩
    · cases h
  · cases h
theorem lk_ok {fm : Nat → Str} {nF i : Nat} (inj : ∀ i, i < nF → ∀ j, j < nF → fm i = fm j → i = j) (hi : i < nF) {F : Hp} {ι : List Addr} {d : D} : ∀ {ns : List Nat} {vs : List D} {fs : List (Str × V)}, (∀ n ∈ ns, n < nF) → fs.map (·.1) = ns.map fm → Rps T F ι vs (fs.map (·.2)) → lkF i ns vs = some d → ∃ v, fs.lookup (fm i) = some v ∧ Rp T F ι d v
  | [], vs, fs, _, _, _, h => by cases vs <;> cases h
  | n :: ns, [], fs, _, _, _, h => by cases h
  | n :: ns, v :: vs, fs, hn, e, r, h => by
    cases fs with
    | nil => cases e
    | cons f fs =>
      obtain ⟨g, x⟩ := f
      rw [List.map_cons, List.map_cons] at e
      injection e with e1 e2
      unfold Rps at r
      obtain ⟨u, us, e3, r1, r2⟩ := r
      rw [List.map_cons] at e3
      injection e3 with e4 e5
      subst e4 e5
      have h' : (if n = i then some v else lkF i ns vs) = some d := h
      by_cases c : n = i
      · rw [if_pos c] at h'
        cases h'
        have e1' : g = fm i := by rw [← c]; exact e1
        refine ⟨x, ?_, r1⟩
        rw [List.lookup_cons, e1']
        simp
      · rw [if_neg c] at h'
        obtain ⟨w, h1, h2⟩ := lk_ok inj hi (fun m hm => hn m (List.mem_cons_of_mem _ hm)) e2 r2 h'
        refine ⟨w, ?_, h2⟩
        have ne : (fm i == g) = false := by
          rw [beq_eq_false_iff_ne]
          intro z
          have e1' : g = fm n := e1
          rw [e1'] at z
          exact c (inj _ hi _ (hn n List.mem_cons_self) z).symm
        rw [List.lookup_cons, ne]
        exact h1
theorem lk_none {fm : Nat → Str} {m : Str} : ∀ {ns : List Nat} {fs : List (Str × V)}, (∀ n ∈ ns, fm n ≠ m) → fs.map (·.1) = ns.map fm → fs.lookup m = none
  | [], fs, _, e => by
    cases fs with
    | nil => rfl
    | cons f fs => cases e
  | n :: ns, fs, hn, e => by
    cases fs with
    | nil => cases e
    | cons f fs =>
      obtain ⟨g, x⟩ := f
      rw [List.map_cons, List.map_cons] at e
      injection e with e1 e2
      have e1' : g = fm n := e1
      rw [List.lookup_cons, e1']
      have ne : (m == fm n) = false := by
        rw [beq_eq_false_iff_ne]
        exact fun z => hn n List.mem_cons_self z.symm
      rw [ne]
      exact lk_none (fun m hm => hn m (List.mem_cons_of_mem _ hm)) e2
theorem put_ok {fm : Nat → Str} {nF i : Nat} (inj : ∀ i, i < nF → ∀ j, j < nF → fm i = fm j → i = j) (hi : i < nF) {F : Hp} {ι : List Addr} {d : D} {v : V} (rd : Rp T F ι d v) : ∀ {ns : List Nat} {vs : List D} {fs : List (Str × V)}, (∀ n ∈ ns, n < nF) → fs.map (·.1) = ns.map fm → Rps T F ι vs (fs.map (·.2)) →
    (putF (fm i) v fs).map (·.1) = (putN i ns).map fm ∧ Rps T F ι (putD i d ns vs) ((putF (fm i) v fs).map (·.2))
  | [], vs, fs, _, e, r => by
    cases fs with
    | cons f fs => cases e
    | nil =>
      have : vs = [] := by
        cases vs with
        | nil => rfl
        | cons _ _ => unfold Rps at r; obtain ⟨_, _, z, _⟩ := r; cases z
      subst this
      exact ⟨rfl, .cons rd .nil⟩
  | n :: ns, vs, fs, hn, e, r => by
    cases fs with
    | nil => cases e
    | cons f fs =>
      obtain ⟨g, x⟩ := f
      rw [List.map_cons, List.map_cons] at e
      injection e with e1 e2
      have e1' : g = fm n := e1
      cases vs with
      | nil => unfold Rps at r; cases r
      | cons w vs =>
        unfold Rps at r
        obtain ⟨u, us, e3, r1, r2⟩ := r
        rw [List.map_cons] at e3
        injection e3 with e4 e5
        subst e4 e5
        unfold putF putN putD
        by_cases c : n = i
        · have e6 : g = fm i := by rw [e1', c]
          rw [if_pos e6, if_pos c, if_pos c]
          exact ⟨by rw [List.map_cons, List.map_cons, e2, e1'], .cons rd r2⟩
        · have e6 : ¬ g = fm i := fun z => c (inj _ (hn n List.mem_cons_self) _ hi (by rw [← e1']; exact z))
          rw [if_neg e6, if_neg c, if_neg c]
          obtain ⟨h1, h2⟩ := put_ok inj hi rd (fun m hm => hn m (List.mem_cons_of_mem _ hm)) e2 r2
          exact ⟨by rw [List.map_cons, List.map_cons, h1, e1'], .cons r1 h2⟩
end
/-! ## e.f, e.f = v -/
def okN (nF : Nat) (ns : List Nat) : Bool := ns.all fun n => decide (n < nF)
theorem okN_ok {nF : Nat} {ns : List Nat} (h : okN nF ns = true) : ∀ n ∈ ns, n < nF := fun n hn => of_decide_eq_true (List.all_eq_true.mp h n hn)
def dFld (cs : List Nat) (nF i : Nat) (f : DE) : DE := fun δ s => (f δ s).bind fun x s1 => match obOf s1 x with
  | some (c, ns, vs) => if (decide (c ∈ cs) && okN nF ns) = true then match lkF i ns vs with
    | some d => .ok d s1
    | none => .stuck
    else .stuck
  | none => .stuck
section
variable {T : Tb} {X : Cx} {cs : List Nat} {nF : Nat}
theorem d_fld {e : Expr} {f : Str} {pos : Pos} {g : DE} (i : Nat) (ob : ObT T.K T.ca T.fm cs nF) (he : PDe T X e g) (hf : f = T.fm i := by rfl) (hi : i < nF := by decide) (hb : attributeBase e f X.env (eval e X.env) = eval e X.env := by rfl) (hK : X.K = T.K := by rfl) :
    PDe T X (.Attribute e f pos) (dFld cs nF i g) := fun pn xe W tk => by
  obtain ⟨t1, p1, d1⟩ := he pn xe W tk
  refine ⟨_, pe_fld (X := X.tr pn xe) p1 hb, fun σ H P ι F δ s Q R E post => ?_⟩
  have hK' : (X.tr pn xe).K = T.K := hK
  rw [hK']
  show t1 σ H _
  refine den_then d1 R E post fun x y H1 ι1 F1 s1 g1 R1 E1 r1 post1 => ?_
  cases q : obOf s1 x with
  | none => rw [q] at post1; exact post1.elim
  | some z =>
    obtain ⟨c, ns, vs⟩ := z
    rw [q] at post1
    dsimp only at post1
    split at post1
    · rename_i hc
      simp only [Bool.and_eq_true, decide_eq_true_eq] at hc
      split at post1
      · rename_i d hd
        obtain ⟨a, dx, fs, rfl, h2, h3, h4⟩ := ob_of R1 r1 q
        obtain ⟨v, h5, h6⟩ := lk_ok ob.inj hi (okN_ok hc.2) h3 h4 hd
        exact ⟨a, _, dx, fs, v, rfl, h2, ob.cls c hc.1, by rw [hf]; exact ob.noat c hc.1 i hi, by rw [hf]; exact h5, post1.here R1 h6⟩
      · exact post1.elim
    · exact post1.elim
/-- o.f = v, o a cell -/
def sFldS (cs : List Nat) (nF i : Nat) (fv fo : DE) : DS := fun δ s => (fv δ s).out δ fun d s1 => (fo δ s1).out δ fun o s2 => match o with
  | .loc n => match s2[n]? with
    | some (.obj c ns vs) => if (decide (c ∈ cs) && (okN nF ns && decide (ns.length < 1000))) = true then .nx δ (s2.set n (.obj c (putN i ns) (putD i d ns vs))) else .stuck
    | _ => .stuck
  | _ => .stuck
theorem s_fld {o value : Expr} {f : Str} {pos pos' : Pos} {fv fo : DE} (i : Nat) (ob : ObT T.K T.ca T.fm cs nF) (hv : PDe T X value fv) (ho : PDe T X o fo) (hf : f = T.fm i := by rfl) (hi : i < nF := by decide)
    (hs : swapsWith value (some (.Attribute o f pos')) pos.line X.env = pure false := by rfl) (hK : X.K = T.K := by rfl) : PDs T X (.Assign [.Attribute o f pos'] value pos) (sFldS cs nF i fv fo) := fun pn xe W tk _ => by
  obtain ⟨t1, p1, d1⟩ := hv pn xe W tk
  obtain ⟨t2, p2, d2⟩ := ho pn xe W tk
  refine ⟨_, ps_fld (X := X.tr pn xe) p2 p1 hs, fun En σ H P ι F δ s R E post => ?_⟩
  have hK' : (X.tr pn xe).K = T.K := hK
  rw [hK']
  show t1 σ H _
  refine dens_then d1 R E post fun x y H1 ι1 F1 s1 g1 R1 E1 r1 post1 => ?_
  refine dens_then d2 R1 E1 post1 fun x2 y2 H2 ι2 F2 s2 g2 R2 E2 r2 post2 => ?_
  split at post2
  · rename_i n
    split at post2
    · rename_i c ns vs hs2
      split at post2
      · rename_i hc
        simp only [Bool.and_eq_true, decide_eq_true_eq] at hc
        unfold Rp at r2
        obtain ⟨a, e1, rfl⟩ := r2
        obtain ⟨h1, dx, fs, h2, h3, h4⟩ := R2.cell _ _ _ hs2 e1
        have hl : fs.length = ns.length := by
          have := congrArg List.length h3
          simpa using this
        obtain ⟨h5, h6⟩ := put_ok ob.inj hi (r1.mono g2) (okN_ok hc.2.1) h3 h4
        refine ⟨a, _, dx, fs, rfl, h2, ob.cls c hc.1, by rw [hf]; exact ob.noat c hc.1 i hi, by rw [hl]; exact hc.2.2, ?_⟩
        rw [hf]
        exact post2 σ _ ι2 F2 (Grow.refl _ _) (R2.setC hs2 rfl e1 ⟨h1, dx, _, upd_same, h5, h6⟩) E2
      · exact post2.elim
    · exact post2.elim
  · exact post2.elim
end
/-! ## methods -/
/-- the class c has, under m, the def that does what φ tells -/
structure Mc (T : Tb) (P : Program) (w : World) (mg : Str → Option Value) (base : Heap) (c : Nat) (m : Str) (k n : Nat) (φ : List D → Sto → Res D) : Prop where
  ex : ∃ (f : Addr) (fd : FuncData) (ps : List Str), Cls T.K (T.ca c) ∧ Meth T.K (T.ca c) m f ∧ Binds T.K fd ps [] ∧ FnOk P w T.K mg base (L2.CX P w) k f fd ps (spD T n φ)
theorem Mc.up {T : Tb} {P : Program} {w : World} {mg : Str → Option Value} {base : Heap} {c : Nat} {m : Str} {j k n : Nat} {φ : List D → Sto → Res D} (h : Mc T P w mg base c m j n φ) (hk : j ≤ k) : Mc T P w mg base c m k n φ := by
  obtain ⟨f, fd, ps, h1, h2, h3, h4⟩ := h.ex
  exact ⟨f, fd, ps, h1, h2, h3, h4.mono hk⟩
def tMethS (C : Addr) (m : Str) (sp : Sp) (E : L2.St → XK) (ta : TE) (t : TA) : TE := fun σ H Q => ta σ H fun x H1 => ∃ a dx fs, x = .ref a ∧ H1 a = some (.ins C dx fs) ∧ fs.lookup m = none ∧ t σ H1 fun vs H2 => sp (x :: vs) H2 Q (E σ)
section
variable {X : Cx} {CX : CXT} {k : Nat} {f C : Addr} {fd : FuncData} {ps : List Str} {sp : Sp} {E : L2.St → XK} {x m : Str} {p pos apos : Pos} {e o : Expr} {es : List Expr} {ta : TE} {t : TA}
theorem pe_methS {pl : Sem Bool} (he : PE X o ta) (c : Cls X.K C) (hm : Meth X.K C m f) (F : FnOk X.prog X.w X.K X.mg X.base CX k f fd ps sp) (hr : Room k X.A) (hb : Binds X.K fd ps []) (hx : ∀ σ, PassesAt CX X σ (E σ)) (ha : PA X (e :: es) t)
    (hst : starEach (e :: es) X.env = (false, eval e X.env) :: starEach es X.env := by rfl) (hpl : (backTo pos (starEach es X.env)).any (·.1) = false := by rfl)
    (ht : eval (.Call (.Attribute o m apos) (e :: es) [] pos) X.env = (do
      let ov ← eval o X.env
      standAt apos.atName
      let (f, first) ← holding [ov] (getMethod ov m pl)
      callWith pos f first (backTo pos (starEach (e :: es) X.env)) (backToKw pos (keywordEach [] X.env))) := by rfl) :
    PE X (.Call (.Attribute o m apos) (e :: es) [] pos) (tMethS C m sp E ta t) := by
  refine ⟨fun pins s σ H Q I h => ?_⟩
  refine PySem.W.methodCall_KW (pl := pl) (thn (he.run pins s σ H _ I h) fun u s1 ⟨x, H1, I1, rx, a, dx, fs, ex, ea, l, q⟩ => ?_) ht
  subst ex
  obtain rfl : u = Value.ref a := rx
  refine getmeth_ok I1 ea c hm l ?_
  refine PySem.W.callWith_K (first := [.ref a]) (h₀ := X.base) I.ok.mod.kin hm.kp (thn (ha.run pos pins s1 σ H1 _ I1 q) fun us s2 ⟨vs, H2, I2, r, q2⟩ => ⟨I2.kIn, ?_⟩) hst hpl
  exact run_fnS (us := .ref a :: us) (vs := .ref a :: vs) F hr hb (hx σ) I2 (.cons rfl r) q2
theorem pe_methS0 {pl : Sem Bool} (he : PE X o ta) (c : Cls X.K C) (hm : Meth X.K C m f) (F : FnOk X.prog X.w X.K X.mg X.base CX k f fd ps sp) (hr : Room k X.A) (hb : Binds X.K fd ps []) (hx : ∀ σ, PassesAt CX X σ (E σ))
    (ht : eval (.Call (.Attribute o m apos) [] [] pos) X.env = (do
      let ov ← eval o X.env
      standAt apos.atName
      let (f, first) ← holding [ov] (getMethod ov m pl)
      callWith pos f first (backTo pos (starEach [] X.env)) (backToKw pos (keywordEach [] X.env))) := by rfl) :
    PE X (.Call (.Attribute o m apos) [] [] pos) (tMethS C m sp E ta tNil) := by
  refine ⟨fun pins s σ H Q I h => ?_⟩
  refine PySem.W.methodCall_KW (pl := pl) (thn (he.run pins s σ H _ I h) fun u s1 ⟨x, H1, I1, rx, a, dx, fs, ex, ea, l, q⟩ => ?_) ht
  subst ex
  obtain rfl : u = Value.ref a := rx
  refine getmeth_ok I1 ea c hm l ?_
  exact PySem.W.callWith_K0 (first := [.ref a]) I1.kIn hm.kp (run_fnS (us := [.ref a]) (vs := [.ref a]) F hr hb (hx σ) I1 (.cons rfl .nil) q)
/-- C(..): a new instance, then its __init__ -/
def tMakeS (C : Addr) (sp : Sp) (E : L2.St → XK) (t : TA) : TE := fun σ H Q => t σ H fun vs H1 => ∀ x dx, H1 x = none → H1 dx = none → dx ≠ x →
  sp (.ref x :: vs) (upd (upd H1 dx (.own x)) x (.ins C dx [])) (fun v H2 => v = .non ∧ Q (.ref x) H2) (E σ)
theorem run_makeS {pins : List (Addr × Obj)} {σ : L2.St} {H : Hp} {s : Shared} {Q : VK} {us : List Value} {vs : List V} (M : Mk X.K C f) (F : FnOk X.prog X.w X.K X.mg X.base CX k f fd ps sp) (hr : Room (k + 1) X.A) (hb : Binds X.K fd ps [])
    (hx : PassesAt CX X σ (E σ)) (I : Inv X pins σ H s) (r : Vals vs us)
    (h : ∀ x dx, H x = none → H dx = none → dx ≠ x → sp (.ref x :: vs) (upd (upd H dx (.own x)) x (.ins C dx [])) (fun v H2 => v = .non ∧ Q (.ref x) H2) (E σ)) :
    wpAny (model X.prog X.w) X.A (call (.ref C) us) (EP X pins σ Q) X.xe s := by
  have hq := h (s.heap.objs.size + 1) s.heap.objs.size (I.hok.fresh (Nat.le_succ _)) (I.hok.fresh (Nat.le_refl _)) (Nat.ne_of_lt (Nat.lt_succ_self _))
  have I2 := Inv.made (C := C) I
  have r2 : Vals (V.ref (s.heap.objs.size + 1) :: vs) (Value.ref (s.heap.objs.size + 1) :: us) := .cons rfl r
  have hl : (Value.ref (s.heap.objs.size + 1) :: us).length = ps.length := by
    have e := r2.length
    rw [F.len _ _ _ _ hq] at e
    exact e.symm
  have b := hb _ (Value.ref (s.heap.objs.size + 1) :: us) I2.kIn (by rw [List.append_nil]; exact hl)
  rw [List.append_nil] at b
  refine wpAny_call (make_map (f := f) I.kIn M.makes M.init (beq_iff_eq.mp M.fn) (codeAny_mono (F.run _ X.stack _ _ ⟨Value.ref (s.heap.objs.size + 1) :: us, []⟩ (Value.ref (s.heap.objs.size + 1) :: us) _ _ (E σ) (hr.make C us [])
    (I2.env0.make C us []) b r2 hq) fun r s' hq' => ?_))
  cases r with
  | error e => exact hx pins _ _ e s' I2 hq'
  | ok fl =>
    cases fl with
    | ret u =>
      obtain ⟨v, H', I3, rv, ev, q3⟩ := I2.after hq'
      subst ev
      exact ⟨rv, ⟨V.ref (s.heap.objs.size + 1), H', I3, rfl, q3⟩⟩
    | next => exact False.elim hq'
    | brk => exact False.elim hq'
    | cont => exact False.elim hq'
theorem pe_makeS (M : Mk X.K C f) (F : FnOk X.prog X.w X.K X.mg X.base CX k f fd ps sp) (hr : Room (k + 1) X.A) (hg : Gl X x) (hm : X.mg x = some (.ref C)) (hb : Binds X.K fd ps []) (hx : ∀ σ, PassesAt CX X σ (E σ))
    (ha : PA X (e :: es) t) (hdb : (x == ("__debug__" : Str)) = false := by decide) (he : starEach (e :: es) X.env = (false, eval e X.env) :: starEach es X.env := by rfl) (hpl : (backTo pos (starEach es X.env)).any (·.1) = false := by rfl) :
    PE X (.Call (.Name x p) (e :: es) [] pos) (tMakeS C sp E t) := by
  refine ⟨fun pins s σ H Q I h => ?_⟩
  refine wpAny_Call_Name_kw (ld_glob I hg hm ?_ hdb)
  refine PySem.W.callWith_K (h₀ := X.base) I.ok.mod.kin M.kp (thn (ha.run pos pins s σ H _ I h) fun us s1 ⟨vs, H1, I1, r, q⟩ => ⟨I1.kIn, ?_⟩) he hpl
  exact run_makeS M F hr hb (hx σ) I1 r q
theorem pe_makeS0 (M : Mk X.K C f) (F : FnOk X.prog X.w X.K X.mg X.base CX k f fd ps sp) (hr : Room (k + 1) X.A) (hg : Gl X x) (hm : X.mg x = some (.ref C)) (hb : Binds X.K fd ps []) (hx : ∀ σ, PassesAt CX X σ (E σ))
    (hdb : (x == ("__debug__" : Str)) = false := by decide) : PE X (.Call (.Name x p) [] [] pos) (tMakeS C sp E tNil) := by
  refine ⟨fun pins s σ H Q I h => ?_⟩
  refine wpAny_Call_Name_kw (ld_glob I hg hm ?_ hdb)
  exact PySem.W.callWith_K0 I.kIn M.kp (run_makeS (us := []) M F hr hb (hx σ) I .nil h)
end
/-- so much of the table: the receiver's class picks the def -/
def dMeth (nF : Nat) (tbl : List (Nat × (List D → Sto → Res D))) (f : DE) (fa : DA) : DE := fun δ s => (f δ s).bind fun x s1 => match obOf s1 x with
  | some (c, ns, _) => if okN nF ns = true then match tbl.lookup c with
    | some φ => (fa δ s1).bind fun ds s2 => φ (x :: ds) s2
    | none => .stuck
    else .stuck
  | none => .stuck
theorem PE.orE {X : Cx} {e : Expr} {t t' : TE} (h : PE X e t) (h' : PE X e t') : PE X e (fun σ H Q => t σ H Q ∨ t' σ H Q) := ⟨fun pins s σ H Q I q => by
  rcases q with q | q
  · exact h.run pins s σ H Q I q
  · exact h'.run pins s σ H Q I q⟩
section
variable {T : Tb} {X : Cx} {nF j k : Nat} {m : Str}
theorem den_meth1 {W : WX} {n c : Nat} {φ : List D → Sto → Res D} {tbl : List (Nat × (List D → Sto → Res D))} {t1 : TE} {t2 : TA} {f : DE} {fa : DA} (d1 : DenG T (Rp T) W t1 f) (d2 : DenG T (RpsN T n) W t2 fa) (hmf : ∀ i, i < nF → T.fm i ≠ m) (hl : tbl.lookup c = some φ)
    {σ : L2.St} {H P : Hp} {ι : List Addr} {F : Hp} {δ : Env} {s : Sto} {Q : VK} (R : RelH T P ι F s H) (E : REnv T F ι δ σ) (post : Post T P (Rp T) Q (fun c H' => W (.ref (T.ca c)) none σ H') F ι (dMeth nF tbl f fa δ s))
    (hsel : ∀ x s1, f δ s = .ok x s1 → ∃ ns vs, obOf s1 x = some (c, ns, vs)) : tMethS (T.ca c) m (spD T (n + 1) φ) (WE W) t1 t2 σ H Q := by
  show t1 σ H _
  unfold dMeth at post
  refine d1 σ H P ι F δ s _ R E ?_
  cases e : f δ s with
  | exc k s1 => rw [e] at post; exact post
  | stuck => rw [e] at post; exact post
  | ok x s1 =>
    rw [e] at post
    obtain ⟨ns, vs, ho⟩ := hsel x s1 e
    intro y H1 ι1 F1 g1 R1 r1
    have post1 := Post.mono g1 (show Post T P (Rp T) Q (fun c H' => W (.ref (T.ca c)) none σ H') F ι (match obOf s1 x with
      | some (c, ns, _) => if okN nF ns = true then match tbl.lookup c with
        | some φ => (fa δ s1).bind fun ds s2 => φ (x :: ds) s2
        | none => .stuck
        else .stuck
      | none => .stuck) from post)
    rw [ho] at post1
    dsimp only at post1
    split at post1
    · rename_i hn
      rw [hl] at post1
      dsimp only at post1
      obtain ⟨a, dx, fs, rfl, h2, h3, h4⟩ := ob_of R1 r1 ho
      refine ⟨a, dx, fs, rfl, h2, lk_none (fun i hi => hmf i (okN_ok hn i hi)) h3, ?_⟩
      refine den_then d2 R1 (E.mono g1) post1 fun ds us H2 ι2 F2 s2 g2 R2 E2 r2 post2 => ?_
      exact ⟨by rw [List.length_cons, r2.2], P, ι2, F2, s2, x :: ds, R2, .cons (r1.mono g2) r2.1, post2⟩
    · exact post1.elim
/-- the receivers' classes, one after another -/
theorem meth_list {e : Expr} {n : Nat} {f : DE} {fa : DA} {tbl : List (Nat × (List D → Sto → Res D))} {pn : List (Addr × Obj)} {xe : Value → Shared → Prop} {W : WX} {t1 : TE} {t2 : TA} (d1 : DenG T (Rp T) W t1 f) (d2 : DenG T (RpsN T n) W t2 fa) (hmf : ∀ i, i < nF → T.fm i ≠ m)
    (h0 : PE (X.tr pn xe) e (fun σ H _ => t1 σ H fun _ _ => False)) : ∀ (l : List (Nat × (List D → Sto → Res D))), (∀ p ∈ l, tbl.lookup p.1 = some p.2 ∧ PE (X.tr pn xe) e (tMethS (T.ca p.1) m (spD T (n + 1) p.2) (WE W) t1 t2)) →
      ∃ t, PE (X.tr pn xe) e t ∧ ∀ σ H P ι F δ s Q, RelH T P ι F s H → REnv T F ι δ σ → Post T P (Rp T) Q (fun c H' => W (.ref (T.ca c)) none σ H') F ι (dMeth nF tbl f fa δ s) →
        (∀ x s1, f δ s = .ok x s1 → ∃ p ∈ l, ∃ ns vs, obOf s1 x = some (p.1, ns, vs)) → t σ H Q
  | [], _ => by
    refine ⟨_, h0, fun σ H P ι F δ s Q R E post hsel => ?_⟩
    refine d1 σ H P ι F δ s _ R E ?_
    unfold dMeth at post
    cases e : f δ s with
    | exc k s1 => rw [e] at post; exact post
    | stuck => rw [e] at post; exact post
    | ok x s1 =>
      obtain ⟨p, hp, _⟩ := hsel x s1 e
      cases hp
  | p :: l, h => by
    obtain ⟨t, ht, hd⟩ := meth_list d1 d2 hmf h0 l fun q hq => h q (List.mem_cons_of_mem _ hq)
    obtain ⟨hp1, hp2⟩ := h p List.mem_cons_self
    refine ⟨_, PE.orE hp2 ht, fun σ H P ι F δ s Q R E post hsel => ?_⟩
    by_cases hq : ∀ x s1, f δ s = .ok x s1 → ∃ ns vs, obOf s1 x = some (p.1, ns, vs)
    · exact .inl (den_meth1 d1 d2 hmf hp1 R E post hq)
    · refine .inr (hd σ H P ι F δ s Q R E post fun x s1 e => ?_)
      obtain ⟨q, hq1, hq2⟩ := hsel x s1 e
      rcases List.mem_cons.mp hq1 with rfl | hq1
      · refine absurd (fun x' s1' e' => ?_) hq
        rw [e] at e'
        cases e'
        exact hq2
      · exact ⟨q, hq1, hq2⟩
theorem lookup_mem' {α : Type} {c : Nat} {φ : α} : ∀ {l : List (Nat × α)}, l.lookup c = some φ → (c, φ) ∈ l
  | [], h => by cases h
  | (d, ψ) :: l, h => by
    rw [List.lookup_cons] at h
    cases q : (c == d) with
    | true =>
      rw [q] at h
      cases h
      rw [beq_iff_eq.mp q]
      exact List.mem_cons_self
    | false =>
      rw [q] at h
      exact List.mem_cons_of_mem _ (lookup_mem' h)
theorem sel_of {P : Hp} {W : WX} {σ : L2.St} {f : DE} {fa : DA} {tbl : List (Nat × (List D → Sto → Res D))} {δ : Env} {s : Sto} {Q : VK} {F : Hp} {ι : List Addr} (post : Post T P (Rp T) Q (fun c H' => W (.ref (T.ca c)) none σ H') F ι (dMeth nF tbl f fa δ s)) :
    ∀ x s1, f δ s = .ok x s1 → ∃ p ∈ tbl, ∃ ns vs, obOf s1 x = some (p.1, ns, vs) := fun x s1 e => by
  unfold dMeth at post
  rw [e] at post
  have post1 : Post T P (Rp T) Q (fun c H' => W (.ref (T.ca c)) none σ H') F ι (match obOf s1 x with
      | some (c, ns, _) => if okN nF ns = true then match tbl.lookup c with
        | some φ => (fa δ s1).bind fun ds s2 => φ (x :: ds) s2
        | none => .stuck
        else .stuck
      | none => .stuck) := post
  cases q : obOf s1 x with
  | none => rw [q] at post1; exact post1.elim
  | some z =>
    obtain ⟨c, ns, vs⟩ := z
    rw [q] at post1
    dsimp only at post1
    split at post1
    · cases q2 : tbl.lookup c with
      | none => rw [q2] at post1; exact post1.elim
      | some φ => exact ⟨(c, φ), lookup_mem' q2, ns, vs, rfl⟩
    · exact post1.elim
/-- each row of the table is the first of its class, and there is a def for it -/
def AllM (T : Tb) (X : Cx) (m : Str) (j n : Nat) (tbl : List (Nat × (List D → Sto → Res D))) : List (Nat × (List D → Sto → Res D)) → Prop
  | [] => True
  | p :: l => (Mc T X.prog X.w X.mg X.base p.1 m j n p.2 ∧ tbl.lookup p.1 = some p.2) ∧ AllM T X m j n tbl l
theorem AllM.mem {n : Nat} {tbl : List (Nat × (List D → Sto → Res D))} : ∀ {l : List (Nat × (List D → Sto → Res D))}, AllM T X m j n tbl l → ∀ p ∈ l, Mc T X.prog X.w X.mg X.base p.1 m j n p.2 ∧ tbl.lookup p.1 = some p.2
  | [], _, p, hp => by cases hp
  | q :: l, h, p, hp => by
    rcases List.mem_cons.mp hp with rfl | hp
    · exact h.1
    · exact AllM.mem h.2 p hp
theorem d_meth {o e : Expr} {es : List Expr} {apos pos : Pos} {f : DE} {fa : DA} {pl : Sem Bool} {tbl : List (Nat × (List D → Sto → Res D))} (hall : AllM T X m j ((e :: es).length + 1) tbl tbl) (hmf : ∀ i, i < nF → T.fm i ≠ m) (ho : PDe T X o f) (ha : PDa T X (e :: es) fa) (hr : Room j X.A) (hK : X.K = T.K := by rfl)
    (hst : starEach (e :: es) X.env = (false, eval e X.env) :: starEach es X.env := by rfl) (hpl : (backTo pos (starEach es X.env)).any (·.1) = false := by rfl)
    (ht : eval (.Call (.Attribute o m apos) (e :: es) [] pos) X.env = (do
      let ov ← eval o X.env
      standAt apos.atName
      let (f, first) ← holding [ov] (getMethod ov m pl)
      callWith pos f first (backTo pos (starEach (e :: es) X.env)) (backToKw pos (keywordEach [] X.env))) := by rfl) : PDe T X (.Call (.Attribute o m apos) (e :: es) [] pos) (dMeth nF tbl f fa) := fun pn xe W tk => by
  obtain ⟨t1, p1, d1⟩ := ho pn xe W tk
  obtain ⟨t2, p2, d2⟩ := ha pn xe W tk
  have h0 : PE (X.tr pn xe) (.Call (.Attribute o m apos) (e :: es) [] pos) (fun σ H _ => t1 σ H fun _ _ => False) :=
    ⟨fun pins s σ H Q I h => PySem.W.methodCall_KW (pl := pl) (thn (p1.run pins s σ H _ I h) fun u s1 ⟨x, H1, I1, rx, q⟩ => q.elim) ht⟩
  obtain ⟨t, hp, hd⟩ := meth_list (nF := nF) (X := X) (tbl := tbl) d1 d2 hmf h0 tbl fun q hq => by
    obtain ⟨hm, hl⟩ := hall.mem q hq
    obtain ⟨g, fd, ps, h1, h2, h3, h4⟩ := hm.ex
    rw [← hK] at h1 h2 h3 h4
    exact ⟨hl, pe_methS (X := X.tr pn xe) (pl := pl) p1 h1 h2 h4 hr h3 (fun σ => passAt tk σ) p2 hst hpl ht⟩
  exact ⟨t, hp, fun σ H P ι F δ s Q R E post => hd σ H P ι F δ s Q R E post (sel_of post)⟩
theorem d_meth0 {o : Expr} {apos pos : Pos} {f : DE} {pl : Sem Bool} {tbl : List (Nat × (List D → Sto → Res D))} (hall : AllM T X m j 1 tbl tbl) (hmf : ∀ i, i < nF → T.fm i ≠ m) (ho : PDe T X o f) (hr : Room j X.A) (hK : X.K = T.K := by rfl)
    (ht : eval (.Call (.Attribute o m apos) [] [] pos) X.env = (do
      let ov ← eval o X.env
      standAt apos.atName
      let (f, first) ← holding [ov] (getMethod ov m pl)
      callWith pos f first (backTo pos (starEach [] X.env)) (backToKw pos (keywordEach [] X.env))) := by rfl) : PDe T X (.Call (.Attribute o m apos) [] [] pos) (dMeth nF tbl f aNil) := fun pn xe W tk => by
  obtain ⟨t1, p1, d1⟩ := ho pn xe W tk
  have d2 : DenG T (RpsN T 0) W tNil aNil := fun _ _ _ _ _ _ _ _ R _ post => post.here R ⟨.nil, rfl⟩
  have h0 : PE (X.tr pn xe) (.Call (.Attribute o m apos) [] [] pos) (fun σ H _ => t1 σ H fun _ _ => False) :=
    ⟨fun pins s σ H Q I h => PySem.W.methodCall_KW (pl := pl) (thn (p1.run pins s σ H _ I h) fun u s1 ⟨x, H1, I1, rx, q⟩ => q.elim) ht⟩
  obtain ⟨t, hp, hd⟩ := meth_list (nF := nF) (X := X) (tbl := tbl) d1 d2 hmf h0 tbl fun q hq => by
    obtain ⟨hm, hl⟩ := hall.mem q hq
    obtain ⟨g, fd, ps, h1, h2, h3, h4⟩ := hm.ex
    rw [← hK] at h1 h2 h3 h4
    exact ⟨hl, pe_methS0 (X := X.tr pn xe) (pl := pl) p1 h1 h2 h4 hr h3 (fun σ => passAt tk σ) ht⟩
  exact ⟨t, hp, fun σ H P ι F δ s Q R E post => hd σ H P ι F δ s Q R E post (sel_of post)⟩
end
/-! ## C(..) -/
structure Mkc (T : Tb) (P : Program) (w : World) (mg : Str → Option Value) (base : Heap) (c : Nat) (x : Str) (k n : Nat) (φ : List D → Sto → Res D) : Prop where
  ex : ∃ (f : Addr) (fd : FuncData) (ps : List Str), Mk T.K (T.ca c) f ∧ mg x = some (.ref (T.ca c)) ∧ Binds T.K fd ps [] ∧ FnOk P w T.K mg base (L2.CX P w) k f fd ps (spD T n φ)
/-- the new object is a cell -/
def mkO (c : Nat) (φ : List D → Sto → Res D) (ds : List D) (s : Sto) : Res D := match φ (.loc s.length :: ds) (s ++ [.obj c [] []]) with
  | .ok .non s2 => .ok (.loc s.length) s2
  | .exc k s2 => .exc k s2
  | _ => .stuck
/-- .. and stays as it is behind its __init__ -/
def frzO (n : Nat) : Res D → Res D
  | .ok (.loc m) s2 => match s2[n]? with
    | some (.obj c ns vs) => if (decide (m = n) && (decide (s2.length = n + 1) && (belows n vs && (s2.take n).all (Cell.below n)))) = true then .ok (.obj c ns vs) (s2.take n) else .stuck
    | _ => .stuck
  | .exc k s2 => cutX n k s2
  | _ => .stuck
def mkOF (c : Nat) (φ : List D → Sto → Res D) (ds : List D) (s : Sto) : Res D := frzO s.length (mkO c φ ds s)
section
variable {T : Tb} {X : Cx} {j k : Nat}
theorem post_mkO {n c : Nat} {φ : List D → Sto → Res D} {ds : List D} {vs : List V} {H P : Hp} {ι : List Addr} {F : Hp} {s : Sto} {Q : VK} {E : Nat → Hp → Prop} (R : RelH T P ι F s H) (r : Rps T F ι ds vs) (hn : vs.length = n) (post : Post T P (Rp T) Q E F ι (mkO c φ ds s))
    {E' : XK} (hE : ∀ c H', E c H' → E' (.ref (T.ca c)) none H') : ∀ x dx, H x = none → H dx = none → dx ≠ x → spD T (n + 1) φ (.ref x :: vs) (upd (upd H dx (.own x)) x (.ins (T.ca c) dx [])) (fun v H2 => v = .non ∧ Q (.ref x) H2) E' := fun x dx hx hdx ne => by
  have R1 := R.new hdx (.own x)
  have g1 : Grow F ι (upd F dx (.own x)) ι := grow_new (R.freeF hdx) _
  have hx1 : upd H dx (.own x) x = none := by rw [upd_ne (Ne.symm ne)]; exact hx
  have R2 := R1.alloc (c := .obj c [] []) (o := .ins (T.ca c) dx []) hx1 ⟨R1.freeF hx1, dx, [], upd_same, rfl, .nil⟩
  have g2 := g1.trans (grow_app (upd F dx (.own x)) ι x)
  refine ⟨by rw [List.length_cons, hn], P, _, _, _, .loc s.length :: ds, R2, .cons ?_ (r.mono g2), ?_⟩
  · unfold Rp
    exact ⟨x, by rw [← R.len]; simp, rfl⟩
  · unfold mkO at post
    cases e : φ (.loc s.length :: ds) (s ++ [.obj c [] []]) with
    | stuck => rw [e] at post; exact post.elim
    | exc k s2 =>
      rw [e] at post
      exact fun H' ι' F' g' R' => hE _ _ (post H' ι' F' (g2.trans g') R')
    | ok d s2 =>
      rw [e] at post
      cases d with
      | non =>
        intro v H' ι' F' g' R' rv
        unfold Rp at rv
        refine ⟨rv, post (.ref x) H' ι' F' (g2.trans g') R' ?_⟩
        unfold Rp
        exact ⟨x, g'.at (by rw [← R.len]; simp), rfl⟩
      | _ => exact post.elim
theorem post_frz {P : Hp} {ι : List Addr} {F : Hp} {s : Sto} {H : Hp} {Q : VK} {E : Nat → Hp → Prop} {r : Res D} (R : RelH T P ι F s H) (post : Post T P (Rp T) Q E F ι (frzO s.length r)) : Post T P (Rp T) Q E F ι r := by
  cases r with
  | stuck => exact post
  | exc k s2 =>
    have post' : Post T P (Rp T) Q E F ι (cutX s.length k s2) := post
    unfold cutX at post'
    split at post'
    · exact post'
    · split at post'
      · rename_i hb
        simp only [Bool.and_eq_true, decide_eq_true_eq] at hb
        exact fun H' ι' F' g R' => post' H' _ F' (takeG g R.len) (R'.cut hb.2)
      · exact post'.elim
  | ok d s2 =>
    cases d with
    | loc m =>
      unfold frzO at post
      dsimp only at post
      split at post
      · rename_i c ns vs hs
        split at post
        · rename_i hb
          simp only [Bool.and_eq_true, decide_eq_true_eq] at hb
          obtain ⟨rfl, hb1, hb2, hb3⟩ := hb
          intro v H' ι' F' g R' rv
          unfold Rp at rv
          obtain ⟨a, e1, rfl⟩ := rv
          obtain ⟨h1, dx, fs, h2, h3, h4⟩ := R'.cell _ _ _ hs e1
          have R2 := R'.freeze hs rfl e1 h1 h2
          have g2 : Grow F' ι' (upd F' a (.ins (T.ca c) dx fs)) ι' := grow_new h1 _
          have e3 : (s2.set s.length .dead).take s.length = s2.take s.length := by
            rw [List.take_set, List.set_eq_of_length_le (by rw [List.length_take]; omega)]
          have R3 := R2.cut (n := s.length) (by rw [e3]; exact hb3)
          rw [e3] at R3
          refine post (.ref a) H' _ _ (takeG (g.trans g2) R.len) R3 ?_
          unfold Rp
          exact ⟨a, dx, fs, rfl, upd_same, h3, (h4.mono g2).takeI hb2⟩
        · exact post.elim
      · exact post.elim
    | _ => exact post.elim
def dMake (φ : List D → Sto → Res D) (fa : DA) : DE := dCall φ fa
theorem d_make {x : Str} {p pos : Pos} {e : Expr} {es : List Expr} {c n : Nat} {φ : List D → Sto → Res D} {fa : DA} (m : Mkc T X.prog X.w X.mg X.base c x k n φ) (ha : PDa T X (e :: es) fa) (hr : Room j X.A) (hk : k + 1 ≤ j := by decide) (hn : (e :: es).length + 1 = n := by rfl) (hg : Gl X x := by rfl) (hK : X.K = T.K := by rfl)
    (hdb : (x == ("__debug__" : Str)) = false := by decide) (he : starEach (e :: es) X.env = (false, eval e X.env) :: starEach es X.env := by rfl) (hpl : (backTo pos (starEach es X.env)).any (·.1) = false := by rfl) :
    PDe T X (.Call (.Name x p) (e :: es) [] pos) (dCall (mkO c φ) fa) := fun pn xe W tk => by
  obtain ⟨t1, p1, d1⟩ := ha pn xe W tk
  obtain ⟨f, fd, ps, h1, h2, h3, h4⟩ := m.ex
  rw [← hK] at h1 h3 h4
  refine ⟨_, pe_makeS (X := X.tr pn xe) h1 h4 (hr.mono hk) hg h2 h3 (fun σ => passAt tk σ) p1 hdb he hpl, fun σ H P ι F δ s Q R E post => ?_⟩
  show t1 σ H _
  refine den_then d1 R E post fun ds vs H1 ι1 F1 s1 g R1 E1 r1 post1 => ?_
  subst hn
  exact post_mkO R1 r1.1 r1.2 post1 fun _ _ h => h
theorem d_makeF {x : Str} {p pos : Pos} {e : Expr} {es : List Expr} {c n : Nat} {φ : List D → Sto → Res D} {fa : DA} (m : Mkc T X.prog X.w X.mg X.base c x k n φ) (ha : PDa T X (e :: es) fa) (hr : Room j X.A) (hk : k + 1 ≤ j := by decide) (hn : (e :: es).length + 1 = n := by rfl) (hg : Gl X x := by rfl) (hK : X.K = T.K := by rfl)
    (hdb : (x == ("__debug__" : Str)) = false := by decide) (he : starEach (e :: es) X.env = (false, eval e X.env) :: starEach es X.env := by rfl) (hpl : (backTo pos (starEach es X.env)).any (·.1) = false := by rfl) :
    PDe T X (.Call (.Name x p) (e :: es) [] pos) (dCall (mkOF c φ) fa) := fun pn xe W tk => by
  obtain ⟨t1, p1, d1⟩ := ha pn xe W tk
  obtain ⟨f, fd, ps, h1, h2, h3, h4⟩ := m.ex
  rw [← hK] at h1 h3 h4
  refine ⟨_, pe_makeS (X := X.tr pn xe) h1 h4 (hr.mono hk) hg h2 h3 (fun σ => passAt tk σ) p1 hdb he hpl, fun σ H P ι F δ s Q R E post => ?_⟩
  show t1 σ H _
  refine den_then d1 R E post fun ds vs H1 ι1 F1 s1 g R1 E1 r1 post1 => ?_
  subst hn
  exact post_mkO R1 r1.1 r1.2 (post_frz R1 post1) fun _ _ h => h
theorem d_make0 {x : Str} {p pos : Pos} {c : Nat} {φ : List D → Sto → Res D} (m : Mkc T X.prog X.w X.mg X.base c x k 1 φ) (hr : Room j X.A) (hk : k + 1 ≤ j := by decide) (hg : Gl X x := by rfl) (hK : X.K = T.K := by rfl) (hdb : (x == ("__debug__" : Str)) = false := by decide) :
    PDe T X (.Call (.Name x p) [] [] pos) (dCall (mkO c φ) aNil) := fun pn xe W tk => by
  obtain ⟨f, fd, ps, h1, h2, h3, h4⟩ := m.ex
  rw [← hK] at h1 h3 h4
  refine ⟨_, pe_makeS0 (X := X.tr pn xe) h1 h4 (hr.mono hk) hg h2 h3 (fun σ => passAt tk σ) hdb, fun σ H P ι F δ s Q R E post => ?_⟩
  have post1 : Post T P (Rp T) Q (fun c H' => W (.ref (T.ca c)) none σ H') F ι (mkO c φ [] s) := post
  exact post_mkO (n := 0) R .nil rfl post1 fun _ _ h => h
end
/-! ### a class without an __init__ of its own -/
structure Mk0 (K : PySem.W.Frag) (C : Addr) : Prop where
  makes : PySem.W.makesIn K C = true
  init : PySem.W.findIn K (.ref C) "__init__" = some (some (.builtin "object.__init__"))
  top : PySem.W.mroIn K C (.type "object") = some true
  kp : PySem.W.keepIn K (.ref C) = true
theorem pe_mk0 {X : Cx} {C : Addr} {x : Str} {p pos : Pos} (M : Mk0 X.K C) (hg : Gl X x) (hm : X.mg x = some (.ref C)) (hdb : (x == ("__debug__" : Str)) = false := by decide) :
    PE X (.Call (.Name x p) [] [] pos) (fun _ H Q => ∀ x dx, H x = none → H dx = none → dx ≠ x → Q (.ref x) (upd (upd H dx (.own x)) x (.ins C dx []))) := by
  refine ⟨fun pins s σ H Q I h => ?_⟩
  refine wpAny_Call_Name_kw (ld_glob I hg hm ?_ hdb)
  refine PySem.W.callWith_K0 I.kIn M.kp ?_
  have hq := h (s.heap.objs.size + 1) s.heap.objs.size (I.hok.fresh (Nat.le_succ _)) (I.hok.fresh (Nat.le_refl _)) (Nat.ne_of_lt (Nat.lt_succ_self _))
  have I2 := Inv.made (C := C) I
  refine wpAny_call (make_map0 I.kIn M.makes M.init (fun self => PySem.W.Looks.of_pure (PySem.W.oi_bind _)) ?_)
  have ho : ((s.heap.push PySem.W.emptyDict).push (PySem.W.instObj C s.heap.objs.size)).get? (s.heap.objs.size + 1) = some (PySem.W.instObj C s.heap.objs.size) := by
    have := Heap.get?_push_size (s.heap.push PySem.W.emptyDict) (o := PySem.W.instObj C s.heap.objs.size) rfl
    rw [Heap.size_push] at this
    exact this
  have t1 : PySem.W.Looks (model X.prog X.w) ((s.heap.push PySem.W.emptyDict).push (PySem.W.instObj C s.heap.objs.size)) (typeOf (.ref (s.heap.objs.size + 1))) (.ref C) := NwA.type_at ho rfl
  have t2 : PySem.W.Looks (model X.prog X.w) ((s.heap.push PySem.W.emptyDict).push (PySem.W.instObj C s.heap.objs.size)) (isInstance (.ref (s.heap.objs.size + 1)) (.type "object")) true := t1.andThen (PySem.W.looks_mroIn I2.kIn M.top)
  refine codeAny_call_builtin PySem.W.oi_plain PySem.W.entry_oi (@PySem.W.check_slot (model X.prog X.w) _ _ _ "object.__init__" "object" "__init__" (.ref (s.heap.objs.size + 1)) [] [] _ PySem.W.oi_kind PySem.W.oi_split t2 (NwA.oi_args_any _ [] []) ?_)
  rw [PySem.W.oi_run]
  exact wpAny_pure ⟨rfl, .ref (s.heap.objs.size + 1), _, I2, rfl, hq⟩
theorem d_mk0 {T : Tb} {X : Cx} {x : Str} {p pos : Pos} (c : Nat) (M : Mk0 T.K (T.ca c)) (hm : X.mg x = some (.ref (T.ca c))) (hg : Gl X x := by rfl) (hK : X.K = T.K := by rfl) (hdb : (x == ("__debug__" : Str)) = false := by decide) :
    PDe T X (.Call (.Name x p) [] [] pos) (dC (.obj c [] [])) := fun pn xe W tk => by
  rw [← hK] at M
  refine ⟨_, pe_mk0 (X := X.tr pn xe) M hg hm hdb, fun σ H P ι F δ s Q R E post x dx hx hdx ne => ?_⟩
  have R1 := R.new hdx (.own x)
  have g1 : Grow F ι (upd F dx (.own x)) ι := grow_new (R.freeF hdx) _
  have hx1 : upd H dx (.own x) x = none := by rw [upd_ne (Ne.symm ne)]; exact hx
  refine (Post.mono g1 post).new R1 hx1 fun g => ?_
  unfold Rp
  exact ⟨x, dx, [], rfl, upd_same, rfl, .nil⟩
end Mp
/-! # MpK -/
namespace Mp
open PySem PySem.Spec PyProof.Rows L2
section
variable {P : Program} {w : World} {A : Around} {E : Value → Shared → Prop} {s : Shared}
theorem call_set_lstI {l : Addr} {items : Array Value} (ns : List Int) {Q : Value → Shared → Prop} (hh : A.handled = none) (hl : s.heap.IsList l items) (hit : IntsAre items.toList ns) (hb : ns.length + 1 < scanBound)
    (h : ∀ (h' : Heap) (tk c : Nat), SetR w h' s.heap.objs.size (fun j => decide (j ∈ ns)) c → c ≤ ns.length → (∀ b o, s.heap.get? b = some o → h'.get? b = some o) → Q (.ref s.heap.objs.size) { s with heap := h', toks := tk }) :
    wpAny (model P w) A (call (.type "set") [.ref l]) Q E s := by
  have hisz : items.size = ns.length := by
    have q := IntsAre.length hit
    rw [Array.length_toList] at q
    exact q
  obtain ⟨c, tl, hmro⟩ := F.called_set.mro
  have hmade := F.called_set.made
  have hsub := F.called_set.sub
  refine wpAny_call (codeAny_of_tree ?_)
  show wpAny _ _ (callAny (.type "set") _) _ _ _
  refine wpAny_pure ⟨Code.quiet_builtin _ (by decide +kernel), codeAny_builtin F.entry_type_call ?_⟩
  rw [Around.under_plain (weight_type_call_type "set" [.ref l] []) rfl]
  have h1 := F.called_set.notType
  have h2 := F.called_set.canCreate
  have hct := F.typeCall_set_1 (.ref l)
  repeat (any_goals (first | assumption | wp_step))

  refine codeAny_mono (code_set_led1 (.ref l) (E := E) (Q₁ := fun obj s₁ => obj = .ref s.heap.objs.size ∧ s₁ = { s with heap := s.heap.push { cls := .type "set", dict := none, data := .set #[] 0 (.fresh 0 0 (!w.params.followText "set-order")) } }) ⟨rfl, rfl⟩) fun r s₁ hr => ?_
  cases r with
  | error e => exact hr
  | ok fl =>
    cases fl with
    | ret obj =>
      obtain ⟨rfl, rfl⟩ := hr
      have hS : (s.heap.push { cls := .type "set", dict := none, data := .set #[] 0 (.fresh 0 0 (!w.params.followText "set-order")) }).get? s.heap.objs.size = some { cls := .type "set", dict := none, data := .set #[] 0 (.fresh 0 0 (!w.params.followText "set-order")) } := Heap.get?_push_size _ rfl
      have hT : Shared.TypeIs { s with heap := s.heap.push { cls := .type "set", dict := none, data := .set #[] 0 (.fresh 0 0 (!w.params.followText "set-order")) } } (.ref s.heap.objs.size) "set" := ⟨_, hS, rfl⟩
      have hli := F.called_set.init.lookup
      have hbi := F.called_set.init.bind (.ref s.heap.objs.size)
      repeat (any_goals (first | assumption | wp_step))

      refine codeAny_mono (codeAny_call_builtin (R := wants (fun r s₂ => r = .none ∧ ∃ h' tk c, s₂ = { s with heap := h', toks := tk } ∧ SetR w h' s.heap.objs.size (fun j => decide (j ∈ ns)) c ∧ c ≤ ns.length ∧
          (∀ b o, s.heap.get? b = some o → h'.get? b = some o)) E) F.called_set.init.plain F.entry_set_init (check_set_init_1 hT ?_)) fun r₂ s₂ hr₂ => ?_
      · obtain ⟨ol, hol, hcl, nl, hdl⟩ := hl
        obtain ⟨ocls, odict, odata, oslots⟩ := ol
        simp only at hcl hdl
        subst hcl; subst hdl
        have hol' : (s.heap.push { cls := .type "set", dict := none, data := .set #[] 0 (.fresh 0 0 (!w.params.followText "set-order")) }).get? l = some { cls := .type "list", dict := odict, data := .seq items nl, slots := oslots } := Heap.get?_push_of_some _ hol
        have hsls := F.sub_list_set
        have hslf := F.sub_list_frozenset
        have hne : (Value.type "list" == Value.type "dict") = false := by decide
        have hl1 : (s.heap.push { cls := .type "set", dict := none, data := .set #[] 0 (.fresh 0 0 (!w.params.followText "set-order")) }).IsList l items := ⟨_, hol', rfl, nl, rfl⟩
        unfold Builtin.«set.__init__» noKeywords Builtin.Frozenset.updateFrom
        generalize hPI : pyIter = PI
        wp_walk
        subst hPI

        refine wpAny_pyIter_list hl1 ?_
        refine wpAny_bind (wpAny_runValue ?_)
        have hlS : l < s.heap.objs.size := Heap.lt_size hol
        have hh3 : A.in1.in1.in1.handled = none := by simp [hh]
        have hz1 : (s.heap.push { cls := .type "set", dict := none, data := .set #[] 0 (.fresh 0 0 (!w.params.followText "set-order")) }).objs.size = s.heap.objs.size + 1 := Heap.size_push ..
        have hneI : l ≠ (s.heap.push { cls := .type "set", dict := none, data := .set #[] 0 (.fresh 0 0 (!w.params.followText "set-order")) }).objs.size := by
          rw [Heap.size_push]; exact Nat.ne_of_lt (Nat.lt_succ_of_lt hlS)
        have hSf : s.heap.objs.size ∉ [(s.heap.push { cls := .type "set", dict := none, data := .set #[] 0 (.fresh 0 0 (!w.params.followText "set-order")) }).objs.size, l] := by
          rw [Heap.size_push]; simp only [List.mem_cons, List.mem_singleton, List.not_mem_nil, or_false, not_or]
          exact ⟨Nat.ne_of_lt (Nat.lt_succ_self _), Nat.ne_of_gt hlS⟩
        have hval : ∀ (i : Nat) (v : Value), items[i]? = some v → ∃ k t, ns[i]? = some k ∧ v = .int k t := fun i v hv => by
          have hi : i < ns.length := by rw [← hisz]; exact (Array.getElem?_eq_some_iff.mp hv).1
          obtain ⟨t, e⟩ := PyProof.Rows.IntsAre.int_at hit i v (by rw [Array.getElem?_toList]; exact hv)
          refine ⟨ns[i], t, List.getElem?_eq_getElem hi, ?_⟩
          rw [e, List.getD_eq_getElem?_getD, List.getElem?_eq_getElem hi] <;> rfl
        refine set_update_ints ((Walks.list hh3 _ l hneI items).toS) s.heap.objs.size
          hSf ns hisz hb hval (items.size - 0) 0 _ (by omega) (Nat.zero_le _)
          ⟨⟨_, Heap.get?_push_size _ rfl, rfl, rfl⟩, (hl1.push _)⟩ ?hS0 ?hR
        case hS0 =>
          have hget : ((s.heap.push { cls := .type "set", dict := none, data := .set #[] 0 (.fresh 0 0 (!w.params.followText "set-order")) }).push { cls := .type "list_iterator", data := .fields #[.ref l, .int 0 0] }).get? s.heap.objs.size
              = some { cls := .type "set", dict := none, data := .set #[] 0 (.fresh 0 0 (!w.params.followText "set-order")) } := Heap.get?_push_of_some _ hS
          exact ⟨0, Nat.le_refl 0, setR_new_at hget⟩
        case hR =>
          intro s' c' hm hc' hS'
          obtain ⟨h', g2, d', tk', os'⟩ := s'
          have eg : g2 = s.gens := hm.gens
          have ed : d' = s.drawn := hm.drawn
          have eo : os' = s.os := hm.os
          subst eg; subst ed; subst eo
          show wpAny _ _ _ _ _ _
          refine wpAny_pure ?_
          show wpAny _ _ (ret Value.none) _ _ _
          rw [hisz] at hc'
          refine wpAny_pure ⟨rfl, h', tk', c', rfl, hS', hc', fun b o e => ?_⟩
          have hb0 : b < s.heap.objs.size := Heap.lt_size e
          have hb1 : b ≠ s.heap.objs.size := Nat.ne_of_lt hb0
          have hb2 : b ≠ (s.heap.push { cls := .type "set", dict := none, data := .set #[] 0 (.fresh 0 0 (!w.params.followText "set-order")) }).objs.size := by
            rw [Heap.size_push]; exact Nat.ne_of_lt (Nat.lt_succ_of_lt hb0)
          exact hm.heap b o (by simp only [List.mem_cons, List.mem_singleton, List.not_mem_nil, or_false, not_or]; exact ⟨hb1, hb2⟩) (Heap.get?_push_of_some _ (Heap.get?_push_of_some _ e))

      · cases r₂ with
        | error e => exact hr₂
        | ok fl₂ =>
          cases fl₂ with
          | ret r =>
            obtain ⟨rfl, h', tk, c', rfl, hS', hc', hk'⟩ := hr₂
            repeat (any_goals (first | assumption | wp_step))
            exact h _ _ _ hS' hc' hk'
          | _ => exact hr₂.elim
    | _ => exact hr.elim

end

/-! ## sorted(set(e)), e a list of whole numbers -/
def insI (x : Int) : List Int → List Int
  | [] => [x]
  | y :: ys => if x < y then x :: y :: ys else if x = y then y :: ys else y :: insI x ys
def sortI : List Int → List Int
  | [] => []
  | x :: xs => insI x (sortI xs)
theorem mem_insI {x y : Int} : ∀ {ys : List Int}, y ∈ insI x ys ↔ y = x ∨ y ∈ ys
  | [] => by simp [insI]
  | z :: zs => by
    unfold insI
    split
    · simp
    · split
      · rename_i h
        subst h
        simp
      · simp only [List.mem_cons, mem_insI (ys := zs)]
        constructor
        · rintro (h | h | h)
          · exact .inr (.inl h)
          · exact .inl h
          · exact .inr (.inr h)
        · rintro (h | h | h)
          · exact .inr (.inl h)
          · exact .inl h
          · exact .inr (.inr h)
theorem mem_sortI {y : Int} : ∀ {xs : List Int}, y ∈ sortI xs ↔ y ∈ xs
  | [] => by simp [sortI]
  | x :: xs => by
    unfold sortI
    rw [mem_insI, mem_sortI (xs := xs)]
    simp
theorem insI_lt {x : Int} : ∀ {ys : List Int}, ys.Pairwise (· < ·) → (insI x ys).Pairwise (· < ·)
  | [], _ => by simp [insI]
  | y :: ys, h => by
    obtain ⟨h1, h2⟩ := List.pairwise_cons.mp h
    unfold insI
    split
    · rename_i hx
      exact List.pairwise_cons.mpr ⟨fun z hz => by
        rcases List.mem_cons.mp hz with rfl | hz
        · exact hx
        · have := h1 z hz
          omega, h⟩
    · split
      · exact h
      · rename_i hx hne
        refine List.pairwise_cons.mpr ⟨fun z hz => ?_, insI_lt h2⟩
        rcases mem_insI.mp hz with rfl | hz
        · omega
        · exact h1 z hz
theorem sortI_lt : ∀ {xs : List Int}, (sortI xs).Pairwise (· < ·)
  | [] => by simp [sortI]
  | x :: xs => by
    unfold sortI
    exact insI_lt sortI_lt
theorem lt_uniq : ∀ {xs ys : List Int}, xs.Pairwise (· < ·) → ys.Pairwise (· < ·) → (∀ z, z ∈ xs ↔ z ∈ ys) → xs = ys
  | [], [], _, _, _ => rfl
  | [], y :: ys, _, _, h => by have := (h y).mpr List.mem_cons_self; cases this
  | x :: xs, [], _, _, h => by have := (h x).mp List.mem_cons_self; cases this
  | x :: xs, y :: ys, hx, hy, h => by
    obtain ⟨h1, h2⟩ := List.pairwise_cons.mp hx
    obtain ⟨h3, h4⟩ := List.pairwise_cons.mp hy
    have e : x = y := by
      rcases List.mem_cons.mp ((h x).mp List.mem_cons_self) with e | e
      · exact e
      · rcases List.mem_cons.mp ((h y).mpr List.mem_cons_self) with e2 | e2
        · exact e2.symm
        · have a := h3 x e
          have b := h1 y e2
          omega
    subst e
    congr 1
    refine lt_uniq h2 h4 fun z => ⟨fun hz => ?_, fun hz => ?_⟩
    · rcases List.mem_cons.mp ((h z).mp (List.mem_cons_of_mem _ hz)) with e | e
      · have := h1 z hz
        omega
      · exact e
    · rcases List.mem_cons.mp ((h z).mpr (List.mem_cons_of_mem _ hz)) with e | e
      · have := h3 z hz
        omega
      · exact e
def intsOf : List D → Option (List Int)
  | [] => some []
  | .int x :: r => (intsOf r).map (x :: ·)
  | _ => none
theorem ints_ok {T : Tb} {F : Hp} {ι : List Addr} : ∀ {ds : List D} {vs : List V} {ns : List Int}, Rps T F ι ds vs → intsOf ds = some ns → vs = ns.map V.int
  | [], vs, ns, r, e => by unfold Rps at r; subst r; cases e; rfl
  | d :: ds, vs, ns, r, e => by
    unfold Rps at r
    obtain ⟨v, us, rfl, h1, h2⟩ := r
    cases d with
    | int x =>
      have e' : (intsOf ds).map (x :: ·) = some ns := e
      cases q : intsOf ds with
      | none => rw [q] at e'; cases e'
      | some cs =>
        rw [q] at e'
        cases e'
        unfold Rp at h1
        rw [h1, ints_ok h2 q]
        rfl
    | _ => cases e
def tSortedSet (K : PySem.W.Frag) (ta : TE) : TE := fun σ H Q => ta σ H fun x H1 => ∃ (l : Addr) (ns : List Int), x = V.ref l ∧ SqL K H1 l (ns.map V.int) ∧ ns.length < 63 ∧ ∀ p, H1 p = none → Q (.ref p) (upd H1 p (.lst ((sortI ns).map V.int)))
theorem pe_sortedSetI {X : Cx} {a : Expr} {ta : TE} {p p2 q pos : Pos} (hc : X.calm = true) (hg : Gl X "sorted") (hm : X.mg "sorted" = none) (hg2 : Gl X "set") (hm2 : X.mg "set" = none) (ha : PE X a ta)
    (na : starEach [a] X.env = (false, eval a X.env) :: starEach [] X.env := by rfl) : PE X (.Call (.Name "sorted" p) [.Call (.Name "set" p2) [a] [] q] [] pos) (tSortedSet X.K ta) := by
  refine ⟨fun pins s σ H Q I h => ?_⟩
  refine Call_ (ld_blt I hg hm PyProof.Rows.boot_sorted ?_)
  refine PyProof.Rows.callWith_builtin1 (PyProof.Rows.args_cons ?_ rfl) rfl rfl
  refine Call_ (ld_blt I hg2 hm2 PyProof.Rows.boot_set ?_)
  refine PyProof.Rows.callWith_type1 (PyProof.Rows.args_cons (thn (ha.run pins s σ H _ I h) fun v s1 ⟨x, H1, I1, r1, q1⟩ => PyProof.Rows.args_nil ?_) na) na rfl
  obtain ⟨l, ns, rfl, hq, h1, q1⟩ := q1
  cases r1
  obtain ⟨its, r, pl, hz⟩ := I1.list hq
  refine call_set_lstI ns (I1.ok.hd hc) pl.isList (by simpa using r.ints) (by unfold scanBound; omega) fun h' tk c hS hcl hk => ?_
  refine PyProof.Rows.args_nil ?_
  have I2 : Inv X pins σ H1 { s1 with heap := h', toks := tk } := I1.kept fun b o e => hk b o e
  refine sorted_set (s := { s1 with heap := h', toks := tk }) hS (I2.ok.hd hc) (by omega) fun s' p out c2 ns2 k g o hp hg hi hs hm hl => ?_
  have e : ns2 = sortI ns := lt_uniq hs sortI_lt fun z => by
    rw [hm z, mem_sortI]
    exact decide_eq_true_iff
  have hlen : (ns2.map V.int).length ≤ sizeLine := by rw [List.length_map, hl, sizeLine_eq]; omega
  have hn : H1 p = none := I2.hok.fresh hp
  have J : Inv X pins σ (upd H1 p (.lst (ns2.map V.int))) { ({ s1 with heap := h', toks := tk } : Shared) with heap := s'.heap, gens := s'.gens, drawn := s'.drawn, toks := s'.toks } :=
    I2.call (ch := []) (Un.laid k hp hn) (I2.hok.laid k hp ⟨hlen, out.toList, c2, vals_of_ints hi, hg⟩) (by rw [g]; exact I2.bare) (fun _ z => nomatch z)
  have e2 : s' = { s1 with heap := s'.heap, gens := s'.gens, drawn := s'.drawn, toks := s'.toks } := by
    cases s'
    cases s1
    cases o
    rfl
  rw [e2]
  refine ⟨.ref p, _, J, rfl, ?_⟩
  rw [e]
  exact q1 p hn
def dSortedSet (f : DE) : DE := fun δ s => (f δ s).bind fun x s1 => match lqOf s1 x with
  | some xs => match intsOf xs with
    | some ns => if ns.length < 63 then .ok (.lst ((sortI ns).map D.int)) s1 else .stuck
    | none => .stuck
  | none => .stuck
section
variable {T : Tb} {X : Cx}
theorem d_sortedSet {a : Expr} {f : DE} {p p2 q pos : Pos} (hm : X.mg "sorted" = none) (hm2 : X.mg "set" = none) (ha : PDe T X a f) (hg : Gl X "sorted" := by rfl) (hg2 : Gl X "set" := by rfl) (hc : X.calm = true := by rfl) (hK : X.K = T.K := by rfl)
    (na : starEach [a] X.env = (false, eval a X.env) :: starEach [] X.env := by rfl) : PDe T X (.Call (.Name "sorted" p) [.Call (.Name "set" p2) [a] [] q] [] pos) (dSortedSet f) := fun pn xe W tk => by
  obtain ⟨t1, p1, d1⟩ := ha pn xe W tk
  have hK' : (X.tr pn xe).K = T.K := hK
  refine ⟨_, pe_sortedSetI (X := X.tr pn xe) hc hg hm hg2 hm2 p1 na, fun σ H P ι F δ s Q R E post => ?_⟩
  rw [hK']
  show t1 σ H _
  refine den_then d1 R E post fun x y H1 ι1 F1 s1 g1 R1 E1 r1 post1 => ?_
  split at post1
  · rename_i xs hx
    split at post1
    · rename_i ns hn
      split at post1
      · rename_i hl
        obtain ⟨l, vs, rfl, h2, h3⟩ := lq_of R1 r1 hx
        rw [ints_ok h3 hn] at h2
        refine ⟨l, ns, rfl, h2, hl, fun p hp => ?_⟩
        refine post1.new R1 hp fun g => ?_
        unfold Rp
        exact ⟨p, _, rfl, upd_same, rps_ints _⟩
      · exact post1.elim
    · exact post1.elim
  · exact post1.elim
end
/-! ## list(x), tuple(x), sum(xs), max(xs), min(xs) -/
def bList : DB
  | [x], s => match (lqOf s x).or (tpOf x) with
    | some xs => .ok (.lst xs) s
    | none => .stuck
  | _, _ => .stuck
/-- .. as a cell -/
def bListC : DB
  | [x], s => match (lqOf s x).or (tpOf x) with
    | some xs => .ok (.loc s.length) (s ++ [.lst xs])
    | none => .stuck
  | _, _ => .stuck
def bTuple : DB
  | [.tup xs], s => .ok (.tup xs) s
  | [x], s => match lqOf s x with
    | some xs => .ok (.tup xs) s
    | none => .stuck
  | _, _ => .stuck
def bSum : DB
  | [x], s => match (lqOf s x).bind intsOf with
    | some ns => .ok (.int ns.sum) s
    | none => .stuck
  | _, _ => .stuck
def maxI : List Int → Int
  | [] => 0
  | n :: ns => ns.foldl max n
def minI : List Int → Int
  | [] => 0
  | n :: ns => ns.foldl min n
def bMaxL : DB
  | [x], s => match (lqOf s x).bind intsOf with
    | some ns => if ns ≠ [] then .ok (.int (maxI ns)) s else .stuck
    | none => .stuck
  | _, _ => .stuck
def bMinL : DB
  | [x], s => match (lqOf s x).bind intsOf with
    | some ns => if ns ≠ [] then .ok (.int (minI ns)) s else .stuck
    | none => .stuck
  | _, _ => .stuck
theorem foldl_max {m : Int} : ∀ {ns : List Int} {n : Int}, (m = n ∨ m ∈ ns) → n ≤ m → (∀ y ∈ ns, y ≤ m) → ns.foldl max n = m
  | [], n, h, _, _ => by
    rcases h with h | h
    · exact h.symm
    · cases h
  | k :: ns, n, h, h1, h2 => by
    rw [List.foldl_cons]
    have hk := h2 k List.mem_cons_self
    refine foldl_max ?_ (by omega) fun y hy => h2 y (List.mem_cons_of_mem _ hy)
    rcases h with h | h
    · left; omega
    · rcases List.mem_cons.mp h with h | h
      · left; omega
      · exact .inr h
theorem foldl_min {m : Int} : ∀ {ns : List Int} {n : Int}, (m = n ∨ m ∈ ns) → m ≤ n → (∀ y ∈ ns, m ≤ y) → ns.foldl min n = m
  | [], n, h, _, _ => by
    rcases h with h | h
    · exact h.symm
    · cases h
  | k :: ns, n, h, h1, h2 => by
    rw [List.foldl_cons]
    have hk := h2 k List.mem_cons_self
    refine foldl_min ?_ (by omega) fun y hy => h2 y (List.mem_cons_of_mem _ hy)
    rcases h with h | h
    · left; omega
    · rcases List.mem_cons.mp h with h | h
      · left; omega
      · exact .inr h
section
variable {T : Tb}
abbrev rListOf (K : PySem.W.Frag) : List V → Hp → VK → Prop := fun xs H Q => ∃ p ys, xs = [.ref p] ∧ (SqL K H p ys ∨ SqT K H p ys) ∧ ∀ l, H l = none → Q (.ref l) (upd H l (.lst ys))
theorem db_list : DenB T (rListOf T.K) bList := by
  intro ds vs H P ι F s Q E R r post
  unfold bList at post
  split at post
  · obtain ⟨v, rfl, h1⟩ := rps1 r
    split at post
    · rename_i xs h
      obtain ⟨a, us, rfl, h2, h3⟩ := lqtp_of R h1 h
      refine ⟨a, us, rfl, h2, fun l hl => ?_⟩
      refine post.new R hl fun g => ?_
      unfold Rp
      exact ⟨l, _, rfl, upd_same, h3.mono g⟩
    · exact post.elim
  · exact post.elim
theorem db_listC : DenB T (rListOf T.K) bListC := by
  intro ds vs H P ι F s Q E R r post
  unfold bListC at post
  split at post
  · obtain ⟨v, rfl, h1⟩ := rps1 r
    split at post
    · rename_i xs h
      obtain ⟨a, us, rfl, h2, h3⟩ := lqtp_of R h1 h
      refine ⟨a, us, rfl, h2, fun l hl => post_loc post R hl ?_⟩
      exact ⟨R.freeF hl, _, upd_same, h3.mono (grow_app _ _ _)⟩
    · exact post.elim
  · exact post.elim
abbrev rTupleOf (K : PySem.W.Frag) : List V → Hp → VK → Prop := fun xs H Q => ∃ p ys, xs = [.ref p] ∧ ((SqL K H p ys ∧ ∀ l, H l = none → Q (.ref l) (upd H l (.tup ys))) ∨ (SqT K H p ys ∧ Q (.ref p) H))
theorem db_tuple : DenB T (rTupleOf T.K) bTuple := by
  intro ds vs H P ι F s Q E R r post
  unfold bTuple at post
  split at post
  · obtain ⟨v, rfl, h1⟩ := rps1 r
    obtain ⟨a, us, rfl, h2, _, h3⟩ := tp_of R h1
    exact ⟨a, us, rfl, .inr ⟨SqT.of h2, post.here R h1⟩⟩
  · obtain ⟨v, rfl, h1⟩ := rps1 r
    split at post
    · rename_i xs h
      obtain ⟨a, us, rfl, h2, h3⟩ := lq_of R h1 h
      refine ⟨a, us, rfl, .inl ⟨h2, fun l hl => ?_⟩⟩
      refine post.new R hl fun g => ?_
      unfold Rp
      exact ⟨l, _, rfl, upd_same, h3.mono g⟩
    · exact post.elim
  · exact post.elim
theorem ints_at {P : Hp} {ι : List Addr} {F : Hp} {s : Sto} {H : Hp} {x : D} {v : V} {ns : List Int} (R : RelH T P ι F s H) (r : Rp T F ι x v) (h : (lqOf s x).bind intsOf = some ns) : ∃ a, v = .ref a ∧ SqL T.K H a (ns.map V.int) := by
  cases q : lqOf s x with
  | none => rw [q] at h; cases h
  | some xs =>
    rw [q] at h
    obtain ⟨a, us, rfl, h2, h3⟩ := lq_of R r q
    rw [ints_ok h3 h] at h2
    exact ⟨a, rfl, h2⟩
theorem db_sum : DenB T (rSum T.K) bSum := by
  intro ds vs H P ι F s Q E R r post
  unfold bSum at post
  split at post
  · obtain ⟨v, rfl, h1⟩ := rps1 r
    split at post
    · rename_i ns h
      obtain ⟨a, rfl, h2⟩ := ints_at R h1 h
      exact ⟨a, ns, rfl, h2, post.here R (by unfold Rp; rfl)⟩
    · exact post.elim
  · exact post.elim
theorem db_maxL : DenB T (rMax T.K) bMaxL := by
  intro ds vs H P ι F s Q E R r post
  unfold bMaxL at post
  split at post
  · obtain ⟨v, rfl, h1⟩ := rps1 r
    split at post
    · rename_i ns h
      split at post
      · rename_i hne
        obtain ⟨a, rfl, h2⟩ := ints_at R h1 h
        refine ⟨a, ns, rfl, h2, List.length_pos_iff.mpr hne, fun m hm hb => ?_⟩
        cases ns with
        | nil => exact absurd rfl hne
        | cons n ns =>
          have e : maxI (n :: ns) = m := foldl_max (List.mem_cons.mp hm) (hb n List.mem_cons_self) fun y hy => hb y (List.mem_cons_of_mem _ hy)
          rw [e] at post
          exact post.here R (by unfold Rp; rfl)
      · exact post.elim
    · exact post.elim
  · exact post.elim
theorem db_minL : DenB T (rMin T.K) bMinL := by
  intro ds vs H P ι F s Q E R r post
  unfold bMinL at post
  split at post
  · obtain ⟨v, rfl, h1⟩ := rps1 r
    split at post
    · rename_i ns h
      split at post
      · rename_i hne
        obtain ⟨a, rfl, h2⟩ := ints_at R h1 h
        refine ⟨a, ns, rfl, h2, List.length_pos_iff.mpr hne, fun m hm hb => ?_⟩
        cases ns with
        | nil => exact absurd rfl hne
        | cons n ns =>
          have e : minI (n :: ns) = m := foldl_min (List.mem_cons.mp hm) (hb n List.mem_cons_self) fun y hy => hb y (List.mem_cons_of_mem _ hy)
          rw [e] at post
          exact post.here R (by unfold Rp; rfl)
      · exact post.elim
    · exact post.elim
  · exact post.elim
end
/-! ## max(xs, default=d) -/
def rMaxDf (K : PySem.W.Frag) : List V → List V → Hp → VK → Prop := fun xs zs H Q => ∃ (a : Addr) (ns : List Int) (d : Int), xs = [.ref a] ∧ zs = [.int d] ∧ SqL K H a (ns.map V.int) ∧ Q (.int (if ns = [] then d else maxI ns)) H
theorem reads_ints {h : Heap} : ∀ {ns : List Int} {us : List Value}, Vals (ns.map V.int) us → ReadsAll h us (ns.map PyData.int) []
  | [], _, .nil => .nil
  | n :: ns, _, .cons r t => by
    obtain ⟨k, rfl⟩ := r
    exact .cons (.int n k) (reads_ints t)
theorem ints_layK : ∀ ns : List Int, PyData.depthAll (ns.map PyData.int) = 0
  | [] => rfl
  | n :: ns => by
    rw [List.map_cons]
    unfold PyData.depthAll
    rw [ints_layK ns]; rfl
theorem crk_max {X : Cx} (hc : X.calm = true) (hu : X.A.units + 64 < cLine) : CallRK X (.builtin "max") [Str.ofString "default"] (rMaxDf X.K) := by
  intro pins s σ H xs zs us ws Q I r rz h
  obtain ⟨a, ns, d, rfl, rfl, hs, q⟩ := h
  obtain ⟨its, rv, hl, _⟩ := I.list hs
  rw [Vals.ref1 r]
  obtain ⟨wd, rfl, td, rfl⟩ := rz.one
  have dep : PyData.depthAll (ns.map PyData.int) = 0 := (ints_layK ns)
  have hr := reads_ints (h := s.heap) rv
  have alk : PySem.W.AlikeAll (ns.map PyData.int) := ⟨fun x hx y hy => by
    obtain ⟨i, _, rfl⟩ := List.mem_map.mp hx
    obtain ⟨j, _, rfl⟩ := List.mem_map.mp hy
    rfl, fun x hx => by
    obtain ⟨i, _, rfl⟩ := List.mem_map.mp hx
    intro z; cases z⟩
  show wpAny _ _ (call (.builtin "max") [.ref a] [(Str.ofString "default", Value.int d td)]) _ _ _
  refine PySem.W.max_list_default (I.ok.hd hc) hl.isList (by rw [List.toList_toArray]; exact hr) alk (by rw [dep]; omega) (fun e h' tk hk => ?_) (fun y ys i v h' tk bs e hv rd hk => ?_)
  · have e0 : ns = [] := by simpa using e
    rw [if_pos e0] at q
    exact ⟨.int d, H, I.kept hk, ⟨_, rfl⟩, q⟩
  · cases ns with
    | nil => cases e
    | cons n ns =>
      rw [List.map_cons] at e
      injection e with e1 e2
      subst e1 e2
      rw [PySem.W.maxD_ints] at rd
      rw [if_neg (by simp)] at q
      cases rd with
      | int i t => exact ⟨.int _, H, I.kept hk, ⟨_, rfl⟩, q⟩
end Mp
/-! # MpL -/
namespace Mp
open PySem PySem.Spec PyProof.Rows L2
/-! ## a list cell is walked: meanwhile nobody may touch it -/
section
variable {T : Tb} {P : Hp} {ι : List Addr} {F : Hp} {s : Sto} {H : Hp}
theorem RelH.hold (R : RelH T P ι F s H) {n : Nat} {a : Addr} {xs : List D} (hs : s[n]? = some (.lst xs)) (hi : ι[n]? = some a) : ∃ vs, H a = some (.lst vs) ∧ Rps T F ι xs vs ∧ F a = none ∧ P a = none ∧ RelH T (upd P a (.lst vs)) ι F (s.set n .dead) H := by
  obtain ⟨hF, vs, h1, h2⟩ := R.cell _ _ _ hs hi
  have hP := R.npr _ _ _ hs rfl hi
  have hn := (List.getElem?_eq_some_iff.mp hs).1
  have at_ : ∀ {m : Nat} {d : Cell}, (s.set n .dead)[m]? = some d → d.live = true → m ≠ n ∧ s[m]? = some d := fun {m d} h l => by
    by_cases e : n = m
    · subst e
      rw [List.getElem?_set_self hn] at h
      cases h
      cases l
    · rw [List.getElem?_set_ne e] at h
      exact ⟨fun z => e z.symm, h⟩
  have ne : ∀ {m : Nat} {d : Cell} {b : Addr}, (s.set n .dead)[m]? = some d → d.live = true → ι[m]? = some b → b ≠ a := fun {m d b} h l hb z => by
    subst z
    obtain ⟨h3, h4⟩ := at_ h l
    exact h3 (R.nod m n d _ b h4 hs l rfl hb hi)
  refine ⟨vs, h1, h2, hF, hP, ⟨R.sub, fun b u h => ?_, fun b u h => ?_, by simp [R.len], fun m d b h3 h4 => ?_, fun m d b h3 l h4 => ?_, fun m k c1 c2 b h3 h4 l1 l2 h5 h6 => R.nod m k c1 c2 b (at_ h3 l1).2 (at_ h4 l2).2 l1 l2 h5 h6⟩⟩
  · by_cases e : b = a
    · subst e; rw [upd_same] at h; cases h; exact h1
    · rw [upd_ne e] at h; exact R.pro b u h
  · by_cases e : b = a
    · subst e; exact hF
    · rw [upd_ne e] at h; exact R.dis b u h
  · cases hd : d.live with
    | false =>
      cases d with
      | dead => trivial
      | _ => cases hd
    | true => exact R.cell m d b (at_ h3 hd).2 h4
  · rw [upd_ne (ne h3 l h4)]; exact R.npr m d b (at_ h3 l).2 l h4
/-- .. and it is back -/
theorem RelH.back {vs : List V} {xs : List D} {n : Nat} {a : Addr} (R : RelH T (upd P a (.lst vs)) ι F s H) (hP : P a = none) (hs : s[n]? = some .dead) (hi : ι[n]? = some a) (r : Rps T F ι xs vs) : RelH T P ι F (s.set n (.lst xs)) H := by
  have hn := (List.getElem?_eq_some_iff.mp hs).1
  have hH : H a = some (.lst vs) := R.pro a _ upd_same
  have hF : F a = none := R.dis a _ upd_same
  have at_ : ∀ {m : Nat} {d : Cell}, (s.set n (.lst xs))[m]? = some d → (m = n ∧ d = .lst xs) ∨ (m ≠ n ∧ s[m]? = some d) := fun {m d} h => by
    by_cases e : n = m
    · subst e
      rw [List.getElem?_set_self hn] at h
      exact .inl ⟨rfl, (Option.some.inj h).symm⟩
    · rw [List.getElem?_set_ne e] at h
      exact .inr ⟨fun z => e z.symm, h⟩
  have hio : ∀ {b : Addr}, ι[n]? = some b → b = a := fun {b} h => by rw [hi] at h; exact (Option.some.inj h).symm
  have ne : ∀ {m : Nat} {d : Cell} {b : Addr}, s[m]? = some d → d.live = true → ι[m]? = some b → b ≠ a := fun {m d b} h l hb z => by
    subst z
    have := R.npr m d b h l hb
    rw [upd_same] at this
    cases this
  refine ⟨R.sub, fun b u h => R.pro b u (by rw [upd_ne (ne_of_none h hP)]; exact h), fun b u h => R.dis b u (by rw [upd_ne (ne_of_none h hP)]; exact h), by simp [R.len], fun m d b h1 h2 => ?_, fun m d b h1 l h2 => ?_, fun m k c1 c2 b h1 h2 l1 l2 h3 h4 => ?_⟩
  · rcases at_ h1 with ⟨rfl, rfl⟩ | ⟨hm, h1⟩
    · rw [hio h2]; exact ⟨hF, vs, hH, r⟩
    · exact R.cell m d b h1 h2
  · rcases at_ h1 with ⟨rfl, rfl⟩ | ⟨hm, h1⟩
    · rw [hio h2]; exact hP
    · have := R.npr m d b h1 l h2
      rw [upd_ne (ne h1 l h2)] at this
      exact this
  · rcases at_ h1 with ⟨e1, f1⟩ | ⟨hm, k1⟩
    · rcases at_ h2 with ⟨e2, f2⟩ | ⟨hk, k2⟩
      · rw [e1, e2]
      · exact absurd (hio (e1 ▸ h3)) (ne k2 l2 h4)
    · rcases at_ h2 with ⟨e2, f2⟩ | ⟨hk, k2⟩
      · exact absurd (hio (e2 ▸ h4)) (ne k1 l1 h3)
      · exact R.nod m k c1 c2 b k1 k2 l1 l2 h3 h4
end
/-- a store with the cell back -/
def bkS (n : Nat) (xs : List D) (s : Sto) : Option Sto := match s[n]? with
  | some .dead => some (s.set n (.lst xs))
  | _ => none
def Out.back (n : Nat) (xs : List D) : Out → Out
  | .nx δ s => match bkS n xs s with | some s' => .nx δ s' | none => .stuck
  | .bk δ s => match bkS n xs s with | some s' => .bk δ s' | none => .stuck
  | .ct δ s => match bkS n xs s with | some s' => .ct δ s' | none => .stuck
  | .rt d s => match bkS n xs s with | some s' => .rt d s' | none => .stuck
  | .ex c δ s => match bkS n xs s with | some s' => .ex c δ s' | none => .stuck
  | .stuck => .stuck
def Res.back {α : Type} (n : Nat) (xs : List D) : Res α → Res α
  | .ok d s => match bkS n xs s with | some s' => .ok d s' | none => .stuck
  | .exc c s => match bkS n xs s with | some s' => .exc c s' | none => .stuck
  | .stuck => .stuck
section
variable {T : Tb}
theorem bk_ok {P : Hp} {ι0 ι : List Addr} {F0 F : Hp} {s s' : Sto} {H : Hp} {vs : List V} {xs : List D} {n : Nat} {a : Addr} (g : Grow F0 ι0 F ι) (R : RelH T (upd P a (.lst vs)) ι F s H) (hP : P a = none) (hi : ι0[n]? = some a) (r : Rps T F0 ι0 xs vs) (h : bkS n xs s = some s') : RelH T P ι F s' H := by
  unfold bkS at h
  split at h
  · rename_i hs
    cases h
    exact R.back hP hs (g.at hi) (r.mono g)
  · cases h
theorem posts_back {P : Hp} {En : Ends} {W : WX} {F : Hp} {ι : List Addr} {vs : List V} {xs : List D} {n : Nat} {a : Addr} {o : Out} (hP : P a = none) (hi : ι[n]? = some a) (r : Rps T F ι xs vs) (post : PostS T P En W F ι (o.back n xs)) : PostS T (upd P a (.lst vs)) En W F ι o := by
  cases o with
  | stuck => exact post
  | nx δ s =>
    unfold Out.back at post; dsimp only at post
    cases q : bkS n xs s with
    | none => rw [q] at post; exact post.elim
    | some s' => rw [q] at post; exact fun σ' H' ι' F' g R E => post σ' H' ι' F' g (bk_ok g R hP hi r q) E
  | bk δ s =>
    unfold Out.back at post; dsimp only at post
    cases q : bkS n xs s with
    | none => rw [q] at post; exact post.elim
    | some s' => rw [q] at post; exact fun σ' H' ι' F' g R E => post σ' H' ι' F' g (bk_ok g R hP hi r q) E
  | ct δ s =>
    unfold Out.back at post; dsimp only at post
    cases q : bkS n xs s with
    | none => rw [q] at post; exact post.elim
    | some s' => rw [q] at post; exact fun σ' H' ι' F' g R E => post σ' H' ι' F' g (bk_ok g R hP hi r q) E
  | rt d s =>
    unfold Out.back at post; dsimp only at post
    cases q : bkS n xs s with
    | none => rw [q] at post; exact post.elim
    | some s' => rw [q] at post; exact fun v H' ι' F' g R rv => post v H' ι' F' g (bk_ok g R hP hi r q) rv
  | ex c δ s =>
    unfold Out.back at post; dsimp only at post
    cases q : bkS n xs s with
    | none => rw [q] at post; exact post.elim
    | some s' => rw [q] at post; exact fun σ' H' ι' F' g R E => post σ' H' ι' F' g (bk_ok g R hP hi r q) E
theorem post_back {α β : Type} {Rl : Hp → List Addr → α → β → Prop} {P : Hp} {Q : β → Hp → Prop} {E : Nat → Hp → Prop} {F : Hp} {ι : List Addr} {vs : List V} {xs : List D} {n : Nat} {a : Addr} {o : Res α} (hP : P a = none) (hi : ι[n]? = some a) (r : Rps T F ι xs vs) (post : Post T P Rl Q E F ι (o.back n xs)) : Post T (upd P a (.lst vs)) Rl Q E F ι o := by
  cases o with
  | stuck => exact post
  | ok d s =>
    unfold Res.back at post; dsimp only at post
    cases q : bkS n xs s with
    | none => rw [q] at post; exact post.elim
    | some s' => rw [q] at post; exact fun v H' ι' F' g R rv => post v H' ι' F' g (bk_ok g R hP hi r q) rv
  | exc c s =>
    unfold Res.back at post; dsimp only at post
    cases q : bkS n xs s with
    | none => rw [q] at post; exact post.elim
    | some s' => rw [q] at post; exact fun H' ι' F' g R => post H' ι' F' g (bk_ok g R hP hi r q)
end
/-! ## for, comprehensions over a list cell: the walk goes by the heap that stays, the protected part among it -/
def WalksP (T : Tb) (J : It) (ds : List D) (P F : Hp) (ι : List Addr) : Prop :=
  L2.Walk J ds.length (fun H => (∀ a o, F a = some o → H a = some o) ∧ ∀ a o, P a = some o → H a = some o) fun i H x H2 => ∃ d, ds[i]? = some d ∧
    ((H2 = H ∧ Rp T F ι d x) ∨ ∃ p vs xs, x = .ref p ∧ H p = none ∧ H2 = upd H p (.tup vs) ∧ d = .tup xs ∧ Rps T F ι xs vs)
theorem Walks.toP {T : Tb} {J : It} {ds : List D} {F : Hp} {ι : List Addr} (P : Hp) (w : Walks T J ds F ι) : WalksP T J ds P F ι := Walk.mono w (fun H h => h.1) fun _ _ _ _ _ _ y => y
theorem walksP_cell {T : Tb} {P F : Hp} {ι : List Addr} {a : Addr} {vs : List V} {ds : List D} (h : P a = some (.lst vs)) (r : Rps T F ι ds vs) : WalksP T (Itl T.K a) ds P F ι := by
  have w : L2.Walk (Itl T.K a) vs.length (fun H => SqL T.K H a vs) (YAt vs) := walk_list
  unfold WalksP
  rw [r.len]
  refine w.mono (fun H hF => SqL.of (hF.2 _ _ h)) fun i H x H' hi hF y => ?_
  obtain ⟨e1, e2⟩ := y
  have hi' : i < ds.length := by rw [r.len]; exact hi
  obtain ⟨d, hd⟩ := get_lt hi'
  obtain ⟨v, h1, h2⟩ := r.get hd
  rw [e2] at h1
  cases h1
  exact ⟨d, hd, .inl ⟨e1, h2⟩⟩
section
variable {T : Tb}
/-- the turns of a for, whatever was walked -/
theorem for_run {W : WX} {g : TG} {ws : List Nat} {t : DTg} {tb : TS} {body : DS} (hg : DenT T ws g t) (hb : DenS T W tb body) {J : It} {ds : List D} {En : Ends} {σ : L2.St} {H1 P : Hp} {ι1 : List Addr} {F1 : Hp} {δ : Env} {s1 : Sto} (w : WalksP T J ds P F1 ι1) (R1 : RelH T P ι1 F1 s1 H1) (E1 : REnv T F1 ι1 δ σ)
    (post1 : PostS T P En W F1 ι1 (forL t body ds δ s1)) :
    ∃ W' : Nat → Nat → L2.St → Hp → Prop, (∃ m, W' 0 m σ H1) ∧ ∀ i m σ H, W' i m σ H →
      (J.stop i H ∧ En.nx σ H) ∨ (J.go i H ∧ ∃ N : L2.St → Hp → Prop, (∀ σ' H', N σ' H' → ∃ m', m' < m ∧ W' (i + 1) m' σ' H') ∧ ∀ x H', J.yld i H x H' → g x σ H' fun σ2 H2 => tb { En with nx := N, ct := N, bk := En.nx } σ2 H2) := by
  refine for_it w (fun i σ' H' => ∃ ι' F' δ' s', Grow F1 ι1 F' ι' ∧ RelH T P ι' F' s' H' ∧ REnv T F' ι' δ' σ' ∧ PostS T P En W F' ι' (forL t body (ds.drop i) δ' s')) ⟨ι1, F1, δ, s1, Grow.refl _ _, R1, E1, by simpa using post1⟩ ?_ ?_ ?_
  · rintro i σ' H' _ ⟨ι', F', δ', s', g', R', E', _⟩
    exact ⟨fun a o h => R'.sub _ _ (g'.1 _ _ h), fun a o h => R'.pro _ _ h⟩
  · rintro i x σ' H' H2 hi ⟨ι', F', δ', s', g', R', E', post'⟩ ⟨d, hd, y⟩
    obtain ⟨F2, g2, R2, r2⟩ := item_ok g' R' y
    rw [drop_get hd] at post'
    unfold forL at post'
    cases q : t d δ' with
    | none => rw [q] at post'; exact post'.elim
    | some δ1 =>
      rw [q] at post'
      dsimp only at post'
      refine hg _ _ _ _ _ _ _ _ _ _ _ R2 (E'.mono g2) r2 q fun σ2 E2 _ => ?_
      refine hb _ _ _ _ _ _ _ _ R2 E2 ?_
      cases qb : body δ1 s' with
      | nx δ2 s2 =>
        rw [qb] at post'
        exact fun σ3 H3 ι3 F3 g3 R3 E3 => ⟨ι3, F3, δ2, s2, (g'.trans g2).trans g3, R3, E3, post'.mono (g2.trans g3)⟩
      | ct δ2 s2 =>
        rw [qb] at post'
        exact fun σ3 H3 ι3 F3 g3 R3 E3 => ⟨ι3, F3, δ2, s2, (g'.trans g2).trans g3, R3, E3, post'.mono (g2.trans g3)⟩
      | bk δ2 s2 => rw [qb] at post'; exact post'.mono g2
      | rt d2 s2 => rw [qb] at post'; exact post'.mono g2
      | ex c δ2 s2 => rw [qb] at post'; exact post'.mono g2
      | stuck => rw [qb] at post'; exact post'.elim
  · rintro σ' H' ⟨ι', F', δ', s', g', R', E', post'⟩
    rw [List.drop_length] at post'
    exact post' σ' H' ι' F' (Grow.refl _ _) R' E'
/-- for x in o, o a list, a tuple, a text, or a list cell -/
def sForA (f : DE) (t : DTg) (body : DS) : DS := fun δ s => (f δ s).out δ fun x s1 => match x with
  | .loc n => match s1[n]? with
    | some (.lst xs) => (forL t body xs δ (s1.set n .dead)).back n xs
    | _ => .stuck
  | .lst xs => forL t body xs δ s1
  | .scr ns => forL t body (ns.map D.int) δ s1
  | .tup xs => forL t body xs δ s1
  | .str z => forL t body (z.map fun c => D.str [c]) δ s1
  | _ => .stuck
theorem s_forA {X : Cx} {tg iter : Expr} {body : List Stmt} {pos : Pos} {f : DE} {ws : List Nat} {t : DTg} {g : DS} (hi : PDe T X iter f) (hg : PDg T X tg ws t) (hb : PDb T X body g) (hc : X.calm = true := by rfl) (hs : ∀ x, foldedSetIterable iter X.env x = pure x := by intro _; rfl) (hK : X.K = T.K := by rfl) :
    PDs T X (.For tg iter body [] pos) (sForA f t g) := fun pn xe W tk ow => by
  obtain ⟨t1, p1, d1⟩ := hi pn xe W tk
  obtain ⟨g1, p2, d2⟩ := hg pn xe
  obtain ⟨tb, p3, d3⟩ := hb pn xe W tk ow
  have hK' : (X.tr pn xe).K = T.K := hK
  have wi : PI (X.tr pn xe) tg iter (fun σ H R => (iList T.K t1 σ H R ∨ iTup T.K t1 σ H R) ∨ iStr t1 σ H R) := by
    have := PI.or (PI.or (pi_list (X := X.tr pn xe) (tg := tg) p1) (pi_tup p1)) (pi_str p1)
    rw [hK'] at this
    exact this
  refine ⟨_, ps_for (X := X.tr pn xe) ow hc wi p2 p3 hs, fun En σ H P ι F δ s R E post => ?_⟩
  have post0 : PostS T P En W F ι ((f δ s).out δ fun x s1 => match x with
    | .loc n => match s1[n]? with
      | some (.lst xs) => (forL t g xs δ (s1.set n .dead)).back n xs
      | _ => .stuck
    | .lst xs => forL t g xs δ s1
    | .scr ns => forL t g (ns.map D.int) δ s1
    | .tup xs => forL t g xs δ s1
    | .str z => forL t g (z.map fun c => D.str [c]) δ s1
    | _ => .stuck) := post
  cases e : f δ s with
  | stuck => rw [e] at post0; exact post0.elim
  | exc k s1 =>
    rw [e] at post0
    refine .inl (.inl ?_)
    show t1 σ H _
    refine d1 σ H P ι F δ s _ R E ?_
    rw [e]
    exact fun H' ι' F' g R' => post0 σ H' ι' F' g R' (E.mono g)
  | ok x s1 =>
    rw [e] at post0
    have run : ∀ {G : V → Hp → Prop}, (∀ v H' ι' F', Grow F ι F' ι' → RelH T P ι' F' s1 H' → Rp T F' ι' x v → G v H') → t1 σ H G := fun {G} h => by
      refine d1 σ H P ι F δ s G R E ?_
      rw [e]
      exact h
    cases x with
    | lst xs =>
      refine .inl (.inl ?_)
      show t1 σ H _
      refine run fun v H1 ι1 F1 g1 R1 r1 => ?_
      unfold Rp at r1
      obtain ⟨a, vs, rfl, h1, h2⟩ := r1
      exact ⟨a, rfl, ⟨vs, SqL.of (R1.sub _ _ h1)⟩, for_run d2 d3 ((walks_list (SqL.of h1) h2).toP P) R1 (E.mono g1) (PostS.mono g1 post0)⟩
    | scr ns =>
      refine .inl (.inl ?_)
      show t1 σ H _
      refine run fun v H1 ι1 F1 g1 R1 r1 => ?_
      unfold Rp at r1
      obtain ⟨a, rfl, h1⟩ := r1
      exact ⟨a, rfl, ⟨_, sql_mono R1.sub h1⟩, for_run d2 d3 ((walks_list h1 (rps_ints ns)).toP P) R1 (E.mono g1) (PostS.mono g1 post0)⟩
    | tup xs =>
      refine .inl (.inr ?_)
      show t1 σ H _
      refine run fun v H1 ι1 F1 g1 R1 r1 => ?_
      obtain ⟨a, vs, rfl, h1, h0, h2⟩ := tp_of R1 r1
      exact ⟨a, rfl, ⟨vs, SqT.of h1⟩, for_run d2 d3 ((walks_tup h0 h2).toP P) R1 (E.mono g1) (PostS.mono g1 post0)⟩
    | str z =>
      refine .inr ?_
      show t1 σ H _
      refine run fun v H1 ι1 F1 g1 R1 r1 => ?_
      unfold Rp at r1
      exact ⟨S z, r1, for_run d2 d3 ((walks_str z).toP P) R1 (E.mono g1) (PostS.mono g1 post0)⟩
    | loc n =>
      refine .inl (.inl ?_)
      show t1 σ H _
      refine run fun v H1 ι1 F1 g1 R1 r1 => ?_
      have post1 : PostS T P En W F ι (match s1[n]? with
        | some (.lst xs) => (forL t g xs δ (s1.set n .dead)).back n xs
        | _ => .stuck) := post0
      unfold Rp at r1
      obtain ⟨a, e1, rfl⟩ := r1
      split at post1
      · rename_i xs hs1
        obtain ⟨vs, h1, h2, h3, h4, R2⟩ := R1.hold hs1 e1
        refine ⟨a, rfl, ⟨vs, SqL.of h1⟩, for_run d2 d3 (walksP_cell (P := upd P a (.lst vs)) upd_same h2) R2 (E.mono g1) (posts_back h4 e1 h2 (PostS.mono g1 post1))⟩
      · exact post1.elim
    | _ => exact post0.elim
end
end Mp
/-! # MpM -/
namespace Mp
open PySem PySem.Spec PyProof.Rows L2
/-! ## the head's Bools: methods by the table, classes without an __init__, isinstance -/
def moB (l : List (Str × Str × Str)) (K : PySem.W.Frag) : Bool := l.all fun q => decide (PySem.W.findIn K (.ref (He.ga K q.1)) q.2.1 = some (some (.ref (He.ma K (He.ga K q.2.2) q.2.1)))) && (PySem.W.isFn K (.ref (He.ma K (He.ga K q.2.2) q.2.1)) && PySem.W.keepIn K (.ref (He.ma K (He.ga K q.2.2) q.2.1)))
theorem mo_ok {l : List (Str × Str × Str)} {K : PySem.W.Frag} (h : moB l K = true) {c m b : Str} (hm : (c, m, b) ∈ l) : Meth K (He.ga K c) m (He.ma K (He.ga K b) m) := by
  unfold moB at h
  have z := List.all_eq_true.mp h _ hm
  simp only [Bool.and_eq_true, decide_eq_true_eq] at z
  exact ⟨z.1, z.2.1, z.2.2⟩
def mk0B (l : List Str) (K : PySem.W.Frag) : Bool := l.all fun c => PySem.W.makesIn K (He.ga K c) && (decide (PySem.W.findIn K (.ref (He.ga K c)) "__init__" = some (some (.builtin "object.__init__"))) && (decide (PySem.W.mroIn K (He.ga K c) (.type "object") = some true) && PySem.W.keepIn K (.ref (He.ga K c))))
theorem mk0_ok {l : List Str} {K : PySem.W.Frag} (h : mk0B l K = true) {c : Str} (hm : c ∈ l) : Mk0 K (He.ga K c) := by
  unfold mk0B at h
  have z := List.all_eq_true.mp h _ hm
  simp only [Bool.and_eq_true, decide_eq_true_eq] at z
  exact ⟨z.1, z.2.1, z.2.2.1, z.2.2.2⟩
abbrev kiTy : List String := ["NoneType", "bool", "int", "str", "list", "tuple", "dict"]
def kiB (ca : PySem.W.Frag → Nat → Addr) (par : List Nat) (cs : List Nat) (K : PySem.W.Frag) : Bool :=
  cs.all fun d => (cs.all fun c => decide (PySem.W.kitOne K (.ref (ca K c)) (.ref (ca K d)) = some (ancF par par.length c d))) && kiTy.all fun t => decide (PySem.W.kitOne K (.type t) (.ref (ca K d)) = some false)
structure KiT (K : PySem.W.Frag) (ca : Nat → Addr) (par : List Nat) (cs : List Nat) : Prop where
  own : ∀ c ∈ cs, ∀ d ∈ cs, PySem.W.kitOne K (.ref (ca c)) (.ref (ca d)) = some (ancF par par.length c d)
  ty : ∀ t ∈ kiTy, ∀ d ∈ cs, PySem.W.kitOne K (.type t) (.ref (ca d)) = some false
theorem kiT_of {ca : PySem.W.Frag → Nat → Addr} {par cs : List Nat} {K : PySem.W.Frag} (h : kiB ca par cs K = true) : KiT K (ca K) par cs := by
  unfold kiB at h
  rw [List.all_eq_true] at h
  refine ⟨fun c hc d hd => ?_, fun t ht d hd => ?_⟩
  · have z := h d hd
    rw [Bool.and_eq_true] at z
    exact of_decide_eq_true (List.all_eq_true.mp z.1 c hc)
  · have z := h d hd
    rw [Bool.and_eq_true] at z
    exact of_decide_eq_true (List.all_eq_true.mp z.2 t ht)
section
variable {T : Tb} {X : Cx}
/-! ## isinstance, own classes among -/
def bIsO (parT par cs : List Nat) : DB := fun ds s => match ds with
  | [.exc k, c] => bIsA parT [.exc k, c] s
  | [x, .cls d] => if d ∈ cs then match obOf s x with
    | some (c, _, _) => if c ∈ cs then .ok (.bl (ancF par par.length c d)) s else .stuck
    | none => match tyOf s x with
      | some t => if t ∈ kiTy then .ok (.bl false) s else .stuck
      | none => .stuck
    else .stuck
  | ds => bIsA parT ds s
theorem db_isO {parT par cs : List Nat} {nF n1 : Nat} (x1 : ExT T.K T.ca parT n1) (ob : ObT T.K T.ca T.fm cs nF) (ki : KiT T.K T.ca par cs) : DenB T (rIsA T.K) (bIsO parT par cs) := by
  intro ds vs H P ι F s Q E R r post
  unfold bIsO at post
  split at post
  · exact db_isA x1 _ _ _ _ _ _ _ _ _ R r post
  · obtain ⟨v, u, rfl, h1, h2⟩ := rps2 r
    unfold Rp at h2
    subst h2
    split at post
    · rename_i hd
      split at post
      · rename_i c ns us q
        split at post
        · rename_i hc
          obtain ⟨a, dx, fs, rfl, h3, _, _⟩ := ob_of R h1 q
          exact .inl ⟨_, _, _, _, _, rfl, .own _, .base (.ins h3 (ob.cls c hc) (ob.ha c hc) ob.hn ob.htk (ob.hm c hc)), ki.own c hc _ hd, post.here R (by unfold Rp; rfl)⟩
        · exact post.elim
      · split at post
        · rename_i t ht
          split at post
          · rename_i hk
            exact .inl ⟨_, _, _, _, _, rfl, .own _, ty_ok R h1 ht, ki.ty _ hk _ hd, post.here R (by unfold Rp; rfl)⟩
          · exact post.elim
        · exact post.elim
    · exact post.elim
  · exact db_isA x1 _ _ _ _ _ _ _ _ _ R r post
/-! ## a cell that was just made stays as it is -/
def frzL (n : Nat) : Res D → Res D
  | .ok (.loc m) s2 => match s2[n]? with
    | some (.lst xs) => if (decide (m = n) && (decide (s2.length = n + 1) && (belows n xs && (s2.take n).all (Cell.below n)))) = true then .ok (.lst xs) (s2.take n) else .stuck
    | _ => .stuck
  | .exc k s2 => cutX n k s2
  | _ => .stuck
theorem post_frzL {P : Hp} {ι : List Addr} {F : Hp} {s : Sto} {H : Hp} {Q : VK} {E : Nat → Hp → Prop} {r : Res D} (R : RelH T P ι F s H) (post : Post T P (Rp T) Q E F ι (frzL s.length r)) : Post T P (Rp T) Q E F ι r := by
  cases r with
  | stuck => exact post
  | exc k s2 =>
    have post' : Post T P (Rp T) Q E F ι (cutX s.length k s2) := post
    unfold cutX at post'
    split at post'
    · exact post'
    · split at post'
      · rename_i hb
        simp only [Bool.and_eq_true, decide_eq_true_eq] at hb
        exact fun H' ι' F' g R' => post' H' _ F' (takeG g R.len) (R'.cut hb.2)
      · exact post'.elim
  | ok d s2 =>
    cases d with
    | loc m =>
      unfold frzL at post
      dsimp only at post
      split at post
      · rename_i xs hs
        split at post
        · rename_i hb
          simp only [Bool.and_eq_true, decide_eq_true_eq] at hb
          obtain ⟨rfl, hb1, hb2, hb3⟩ := hb
          intro v H' ι' F' g R' rv
          unfold Rp at rv
          obtain ⟨a, e1, rfl⟩ := rv
          obtain ⟨h1, fs, h2, h4⟩ := R'.cell _ _ _ hs e1
          have R2 := R'.freeze hs rfl e1 h1 h2
          have g2 : Grow F' ι' (upd F' a (.lst fs)) ι' := grow_new h1 _
          have e3 : (s2.set s.length .dead).take s.length = s2.take s.length := by
            rw [List.take_set, List.set_eq_of_length_le (by rw [List.length_take]; omega)]
          have R3 := R2.cut (n := s.length) (by rw [e3]; exact hb3)
          rw [e3] at R3
          refine post (.ref a) H' _ _ (takeG (g.trans g2) R.len) R3 ?_
          unfold Rp
          exact ⟨a, fs, rfl, upd_same, (h4.mono g2).takeI hb2⟩
        · exact post.elim
      · exact post.elim
    | _ => exact post.elim
def dFrz (f : DE) : DE := fun δ s => frzL s.length (f δ s)
theorem d_frz {e : Expr} {f : DE} (h : PDe T X e f) : PDe T X e (dFrz f) := fun pn xe W tk => by
  obtain ⟨t1, p1, d1⟩ := h pn xe W tk
  exact ⟨t1, p1, fun σ H P ι F δ s Q R E post => d1 σ H P ι F δ s Q R E (post_frzL R post)⟩
/-- list + list, as a cell -/
def oAddC : DOp := fun x y s => match lsOf s x, lsOf s y with
  | some a, some b => if a.length + b.length ≤ lim then .ok (.loc s.length) (s ++ [.lst (a ++ b)]) else .stuck
  | _, _ => .stuck
theorem do_addC : DenOp T (rAddA T.K) oAddC := by
  intro x y dx dy H P ι F s Q E R rx ry post
  unfold oAddC at post
  split at post
  · rename_i a b h1 h2
    obtain ⟨p, vs, rfl, e1, e2⟩ := ls_of R rx h1
    obtain ⟨q, us, rfl, e3, e4⟩ := ls_of R ry h2
    split at post
    · rename_i hl
      refine .inr (.inr (.inl ⟨p, q, vs, us, rfl, rfl, e1, e3, by rw [← e2.len, ← e4.len]; exact lim_le hl, fun l hl => post_loc post R hl ?_⟩))
      exact ⟨R.freeF hl, _, upd_same, (e2.app e4).mono (grow_app _ _ _)⟩
    · exact post.elim
  · exact post.elim
/-! ## list.clear, .reverse, .pop -/
def mClear : DM
  | .loc n, [], s => match s[n]? with
    | some (.lst _) => .ok .non (s.set n (.lst []))
    | _ => .stuck
  | _, _, _ => .stuck
theorem dm_clear : DenM T rClear mClear := by
  intro d ds v vs H P ι F s Q E R r rs post
  unfold mClear at post
  split at post
  · rename_i n
    cases (show vs = [] by unfold Rps at rs; exact rs)
    unfold Rp at r
    obtain ⟨a, e1, rfl⟩ := r
    split at post
    · rename_i xs hs
      obtain ⟨h2, us, h3, h4⟩ := lc_of R hs e1
      refine ⟨a, us, rfl, rfl, h3, ?_⟩
      exact post .non _ ι F (Grow.refl _ _) (R.setC hs rfl e1 ⟨h2, _, upd_same, .nil⟩) (by unfold Rp; rfl)
    · exact post.elim
  · exact post.elim
theorem Rps.rev {F : Hp} {ι : List Addr} : ∀ {ds : List D} {vs : List V}, Rps T F ι ds vs → Rps T F ι ds.reverse vs.reverse
  | [], vs, h => by unfold Rps at h; subst h; exact .nil
  | d :: ds, vs, h => by
    unfold Rps at h
    obtain ⟨v, us, rfl, h1, h2⟩ := h
    rw [List.reverse_cons, List.reverse_cons]
    exact (Rps.rev h2).app (.cons h1 .nil)
def mReverse : DM
  | .loc n, [], s => match s[n]? with
    | some (.lst xs) => .ok .non (s.set n (.lst xs.reverse))
    | _ => .stuck
  | _, _, _ => .stuck
theorem dm_reverse : DenM T rReverse mReverse := by
  intro d ds v vs H P ι F s Q E R r rs post
  unfold mReverse at post
  split at post
  · rename_i n
    cases (show vs = [] by unfold Rps at rs; exact rs)
    unfold Rp at r
    obtain ⟨a, e1, rfl⟩ := r
    split at post
    · rename_i xs hs
      obtain ⟨h2, us, h3, h4⟩ := lc_of R hs e1
      refine ⟨a, us, rfl, rfl, h3, ?_⟩
      exact post .non _ ι F (Grow.refl _ _) (R.setC hs rfl e1 ⟨h2, _, upd_same, h4.rev⟩) (by unfold Rp; rfl)
    · exact post.elim
  · exact post.elim
/-! ## list(range(a)) -/
def dListR (f : DE) : DE := fun δ s => (f δ s).bind fun x s1 => match x with
  | .int n => if 0 ≤ n ∧ n ≤ 1000 then .ok (.lst (intsD 0 n.toNat)) s1 else .stuck
  | _ => .stuck
theorem rgV_eq (n : Int) : rgV 0 n = (List.range n.toNat).map fun (i : Nat) => V.int (0 + (i : Int)) := by
  unfold rgV
  rw [show n - 0 = n by omega]
theorem rps_rg {F : Hp} {ι : List Addr} (n : Nat) : Rps T F ι (intsD 0 n) ((List.range n).map fun (i : Nat) => V.int (0 + (i : Int))) := by
  have := rps_ints (T := T) (F := F) (ι := ι) ((List.range n).map fun (i : Nat) => 0 + (i : Int))
  rw [List.map_map, List.map_map] at this
  exact this
theorem d_listR {a : Expr} {f : DE} {p p2 q pos : Pos} (hm : X.mg "list" = none) (hm2 : X.mg "range" = none) (ha : PDe T X a f) (hg : Gl X "list" := by rfl) (hg2 : Gl X "range" := by rfl) (hc : X.calm = true := by rfl)
    (na : starEach [a] X.env = (false, eval a X.env) :: starEach [] X.env := by rfl) (na2 : starEach [Expr.Call (.Name "range" p2) [a] [] q] X.env = (false, eval (Expr.Call (.Name "range" p2) [a] [] q) X.env) :: starEach [] X.env := by rfl) : PDe T X (.Call (.Name "list" p) [.Call (.Name "range" p2) [a] [] q] [] pos) (dListR f) := fun pn xe W tk => by
  obtain ⟨t1, p1, d1⟩ := ha pn xe W tk
  refine ⟨_, pe_listRg (X := X.tr pn xe) hc hg hm (prg_1 hg2 hm2 p1 na) na2, fun σ H P ι F δ s Q R E post => ?_⟩
  show t1 σ H _
  refine den_then d1 R E post fun x y H1 ι1 F1 s1 g1 R1 E1 r1 post1 => ?_
  split at post1
  · rename_i n
    unfold Rp at r1
    subst r1
    split at post1
    · rename_i hn
      refine ⟨n, rfl, RgOk.of_le (by omega) (by omega) (by omega) (by omega), fun q hq => ?_⟩
      refine post1.new R1 hq fun g => ?_
      unfold Rp
      refine ⟨q, _, rfl, upd_same, ?_⟩
      rw [rgV_eq]
      exact rps_rg _
    · exact post1.elim
  · exact post1.elim
/-! ## keywords -/
def PDkw (T : Tb) (X : Cx) (kws : List Keyword) (f : DA) : Prop := ∀ pn xe W, Takes (X.tr pn xe) W → ∃ t, PK (X.tr pn xe) kws t ∧ DenG T (RpsN T kws.length) W t f
theorem kw_nil : PDkw T X [] aNil := fun pn xe W _ => ⟨_, pk_nil, fun _ _ _ _ _ _ _ _ R _ post => post.here R ⟨.nil, rfl⟩⟩
theorem kw_one {nm : Option Str} {e : Expr} {kpos : Pos} {f : DE} (he : PDe T X e f) : PDkw T X [⟨nm, e, kpos⟩] (aCons f aNil) := fun pn xe W tk => by
  obtain ⟨t1, p1, d1⟩ := he pn xe W tk
  exact ⟨_, pk_cons p1 pk_nil, den_cons d1 (n := 0) fun _ _ _ _ _ _ _ _ R _ post => post.here R ⟨.nil, rfl⟩⟩
def bMaxD : List D → List D → Sto → Res D
  | [x], [.int d], s => match (lqOf s x).bind intsOf with
    | some ns => .ok (.int (if ns = [] then d else maxI ns)) s
    | none => .stuck
  | _, _, _ => .stuck
def dMaxD (fa fz : DA) : DE := fun δ s => (fa δ s).bind fun ds s1 => (fz δ s1).bind fun zs s2 => bMaxD ds zs s2
theorem d_maxD {e : Expr} {kws : List Keyword} {p pos : Pos} {fa fz : DA} (hm : X.mg "max" = none) (ha : PDa T X [e] fa) (hk : PDkw T X kws fz) (hc : X.calm = true := by rfl) (hu : X.A.units + 64 < cLine) (hg : Gl X "max" := by rfl) (hK : X.K = T.K := by rfl)
    (he : backTo pos (starEach [e] X.env) = (false, eval e X.env) :: backTo pos (starEach [] X.env) := by rfl) (hpl : (backTo pos (starEach [e] X.env)).any (·.1) = false := by rfl)
    (hall : (backToKw pos (keywordEach kws X.env)).all (·.1.isSome) = true := by rfl) (hnone : (backToKw pos (keywordEach kws X.env)).any (·.1.isNone) = false := by rfl) (hks : (backToKw pos (keywordEach kws X.env)).filterMap (·.1) = [Str.ofString "default"] := by rfl) :
    PDe T X (.Call (.Name "max" p) [e] kws pos) (dMaxD fa fz) := fun pn xe W tk => by
  obtain ⟨t1, p1, d1⟩ := ha pn xe W tk
  obtain ⟨t2, p2, d2⟩ := hk pn xe W tk
  have hK' : (X.tr pn xe).K = T.K := hK
  refine ⟨_, pe_callBK (X := X.tr pn xe) (crk_max hc hu) hg hm (by decide +kernel) p1 p2 (by decide) (by decide) he hpl hall hnone hks, fun σ H P ι F δ s Q R E post => ?_⟩
  rw [hK']
  show t1 σ H _
  refine den_then d1 R E post fun ds vs H1 ι1 F1 s1 g1 R1 E1 r1 post1 => ?_
  refine den_then d2 R1 E1 post1 fun zs ws H2 ι2 F2 s2 g2 R2 E2 r2 post2 => ?_
  have ra := r1.1.mono g2
  unfold bMaxD at post2
  split at post2
  · obtain ⟨v, e1, h1⟩ := rps1 ra
    obtain ⟨w, e2, h2⟩ := rps1 r2.1
    subst e1 e2
    unfold Rp at h2
    subst h2
    split at post2
    · rename_i ns hn
      obtain ⟨a, rfl, h3⟩ := ints_at R2 h1 hn
      exact ⟨a, ns, _, rfl, rfl, h3, post2.here R2 (by unfold Rp; rfl)⟩
    · exact post2.elim
  · exact post2.elim
/-! ## comprehensions over a list cell -/
/-- what is walked, and the cell that is held meanwhile -/
def itCel (x : D) (s : Sto) : Option (List D × Sto × Option (Nat × List D)) := match x with
  | .loc n => match s[n]? with
    | some (.lst xs) => some (xs, s.set n .dead, some (n, xs))
    | _ => none
  | .lst xs => some (xs, s, none)
  | .scr ns => some (ns.map D.int, s, none)
  | .tup xs => some (xs, s, none)
  | .str z => some (z.map fun c => D.str [c], s, none)
  | _ => none
def backO : Option (Nat × List D) → Res D → Res D
  | none, r => r
  | some (n, xs), r => r.back n xs
def dLcA (f : DE) (t : DTg) (c : DT) (e : DE) (vs : List Nat) : DE := fun δ s => (f δ s).bind fun x s1 => match itCel x s1 with
  | some (ds, s2, h) => backO h (lcL t c e (wipeE δ vs) ds [] s2)
  | none => .stuck
/-- the turns of a comprehension, whatever was walked -/
theorem lc_run {W : WX} {ws vs : List Nat} {t : DTg} {c : DT} {e : DE} (hs : ∀ i ∈ ws, i ∈ vs) {J : It} {ds : List D} {σ : L2.St} {H1 P : Hp} {ι1 : List Addr} {F1 : Hp} {δ : Env} {s1 : Sto} {Q : VK} (w : WalksP T J ds P F1 ι1) (R1 : RelH T P ι1 F1 s1 H1) (E1 : REnv T F1 ι1 δ σ)
    (post1 : Post T P (Rp T) Q (fun c H' => W (.ref (T.ca c)) none σ H') F1 ι1 (lcL t c e (wipeE δ vs) ds [] s1)) : ∀ L, H1 L = none →
    ∃ W' : Nat → Nat → Hp → Prop, (∃ m, W' 0 m (upd H1 L (.lst []))) ∧ ∀ i m H, W' i m H →
      (J.stop i H ∧ Q (.ref L) H) ∨ (J.go i H ∧ ∃ Nx : Hp → Prop, (∀ H', Nx H' → ∃ m', m' < m ∧ W' (i + 1) m' H') ∧ ∀ x H', J.yld i H x H' → canT T ws t x (L2.wipe σ vs) H' fun σ2 H2 => L2.wipe σ2 vs = L2.wipe σ vs ∧ canE T eqR W0 c σ2 H2 fun b H3 =>
        if b = true then canE T (Rp T) W0 e σ2 H3 (fun y H4 => ∃ ys, H4 L = some (.lst ys) ∧ ys.length < sizeLine ∧ Nx (upd H4 L (.lst (ys ++ [y])))) else Nx H3) := fun L hL => by
  have hPL : P L = none := R1.freeP hL
  refine lc_it w (fun i H' => ∃ ι' F' s' acc vacc, Grow F1 ι1 F' ι' ∧ RelH T (upd P L (.lst vacc)) ι' F' s' H' ∧ Rps T F' ι' acc vacc ∧
      Post T P (Rp T) Q (fun c H' => W (.ref (T.ca c)) none σ H') F' ι' (lcL t c e (wipeE δ vs) (ds.drop i) acc s'))
    ⟨ι1, F1, s1, [], [], Grow.refl _ _, R1.newP hL _, .nil, by simpa using post1⟩ ?_ ?_ ?_
  · rintro i H' _ ⟨ι', F', s', acc, vacc, g', R', _, _⟩
    exact ⟨fun a o h => R'.sub _ _ (g'.1 _ _ h), fun a o h => R'.pro _ _ (by rw [upd_ne (ne_of_none h hPL)]; exact h)⟩
  · rintro i x H' H2 hi' ⟨ι', F', s', acc, vacc, g', R', ra, post'⟩ ⟨d, hd, y⟩
    obtain ⟨F2, g2, R2, r2⟩ := item_ok g' R' y
    rw [drop_get hd] at post'
    unfold lcL at post'
    have Ew : REnv T F2 ι' (wipeE δ vs) (L2.wipe σ vs) := ((E1.mono g').mono g2).wipe vs
    cases q : t d (wipeE δ vs) with
    | none => rw [q] at post'; exact post'.elim
    | some δ1 =>
      rw [q] at post'
      dsimp only at post'
      refine ⟨_, ι', F2, _, δ1, s', d, R2, Ew, r2, q, fun σ2 E2 o2 => ⟨o2.wipe hs |>.trans ?_, ?_⟩⟩
      · refine List.ext_getElem? fun j => ?_
        rw [wipe_at, wipe_at, wipe_length]
        by_cases c : j ∈ vs ∧ j < σ.length
        · rw [if_pos c, if_pos c]
        · rw [if_neg c, if_neg c]
      · refine ⟨_, ι', F2, δ1, s', R2, E2, ?_⟩
        cases qc : c δ1 s' with
        | stuck => rw [qc] at post'; exact post'.elim
        | exc k s2 => rw [qc] at post'; exact post'.elim
        | ok b s2 =>
          rw [qc] at post'
          intro b' H3 ι3 F3 g3 R3 eb
          cases eb
          cases b with
          | false =>
            rw [if_neg Bool.false_ne_true]
            exact ⟨ι3, F3, s2, acc, vacc, (g'.trans g2).trans g3, R3, ra.mono (g2.trans g3), post'.mono (g2.trans g3)⟩
          | true =>
            rw [if_pos rfl]
            refine ⟨_, ι3, F3, δ1, s2, R3, E2.mono g3, ?_⟩
            dsimp only at post'
            cases qe : e δ1 s2 with
            | stuck => rw [qe] at post'; exact post'.elim
            | exc k s3 => rw [qe] at post'; exact post'.elim
            | ok z s3 =>
              rw [qe] at post'
              intro v H4 ι4 F4 g4 R4 rv
              dsimp only at post'
              have ra' := ra.mono ((g2.trans g3).trans g4)
              split at post'
              · rename_i hl
                refine ⟨vacc, R4.pro _ _ upd_same, by rw [← ra.len]; exact lim_lt (Nat.le_of_lt hl), ι4, F4, s3, acc ++ [z], vacc ++ [v], ((g'.trans g2).trans g3).trans g4, ?_, ra'.app (.cons rv .nil), post'.mono ((g2.trans g3).trans g4)⟩
                have := R4.setP (p := L) upd_same (.lst (vacc ++ [v]))
                rw [upd_upd] at this
                exact this
              · exact post'.elim
  · rintro H' ⟨ι', F', s', acc, vacc, g', R', ra, post'⟩
    rw [List.drop_length] at post'
    have R2 := R'.thaw hPL
    have gr : Grow F' ι' (upd F' L (.lst vacc)) ι' := grow_new (R'.dis L _ upd_same) _
    refine post' (.ref L) H' ι' _ gr R2 ?_
    unfold Rp
    exact ⟨L, vacc, rfl, upd_same, ra.mono gr⟩
theorem back_L {Q : VK} {E : Nat → Hp → Prop} {P F : Hp} {ι : List Addr} {h : Option (Nat × List D)} {r : Res D} (hn : h = none) (post : Post T P (Rp T) Q E F ι (backO h r)) : Post T P (Rp T) Q E F ι r := by
  subst hn
  exact post
theorem d_lcA {elt tg iter : Expr} {ifs : List Expr} {scope : Scope} {own : List (Str × Nat)} {pos : Pos} {f : DE} {ws : List Nat} {t : DTg} {c : DT} {e : DE} (hN : X.N.Nodup) (hi : PDe T X iter f) (ok : BlkOk X.N X.env.scope scope own)
    (hg : ∀ (s : Shared) (H : Hp) (C : Addr) (cl : List (Str × Addr)) (fp : List Addr), PDg T (Blk X scope s H C cl fp) tg ws t) (ht : ∀ (s : Shared) (H : Hp) (C : Addr) (cl : List (Str × Addr)) (fp : List Addr), PDts T (Blk X scope s H C cl fp) ifs c)
    (he : ∀ (s : Shared) (H : Hp) (C : Addr) (cl : List (Str × Addr)) (fp : List Addr), PDe T (Blk X scope s H C cl fp) elt e) (hs : ∀ i ∈ ws, i ∈ own.map (·.2) := by decide) (hf : ∀ x, foldedSetIterable iter X.env x = pure x := by intro _; rfl) (hc : X.calm = true := by rfl) (hK : X.K = T.K := by rfl) :
    PDe T X (.ListComp elt [⟨tg, iter, ifs, 0⟩] scope pos) (dLcA f t c e (own.map (·.2))) := fun pn xe W tk => by
  obtain ⟨t1, p1, d1⟩ := hi pn xe W tk
  have hK' : (X.tr pn xe).K = T.K := hK
  have wi : PI (X.tr pn xe) tg iter (fun σ H R => (iList T.K t1 σ H R ∨ iTup T.K t1 σ H R) ∨ iStr t1 σ H R) := by
    have := PI.or (PI.or (pi_list (X := X.tr pn xe) (tg := tg) p1) (pi_tup p1)) (pi_str p1)
    rw [hK'] at this
    exact this
  refine ⟨_, pe_lc (X := X.tr pn xe) (own := own) hc hN wi ok (g := canT T ws t) (tt := canE T eqR W0 c) (te := canE T (Rp T) W0 e) (fun s H C cl fp => ?_) (fun s H C cl fp => ?_) (fun s H C cl fp => ?_) hf, fun σ H P ι F δ s Q R E post => ?_⟩
  · obtain ⟨g, p, d⟩ := hg s H C cl fp [] (fun _ _ => False)
    exact PG.weak p fun v σ H Q q => d.can q
  · obtain ⟨g, p, d⟩ := ht s H C cl fp
    exact PTs.weak p fun σ H Q q => d.can q
  · obtain ⟨g, p, d⟩ := he s H C cl fp [] (fun _ _ => False) W0 takes0
    exact PE.weak p fun σ H Q q => d.can q
  have post0 : Post T P (Rp T) Q (fun c H' => W (.ref (T.ca c)) none σ H') F ι ((f δ s).bind fun x s1 => match itCel x s1 with
    | some (ds, s2, h) => backO h (lcL t c e (wipeE δ (own.map (·.2))) ds [] s2)
    | none => .stuck) := post
  cases ef : f δ s with
  | stuck => rw [ef] at post0; exact post0.elim
  | exc k s1 =>
    rw [ef] at post0
    refine .inl (.inl ?_)
    show t1 σ H _
    refine d1 σ H P ι F δ s _ R E ?_
    rw [ef]
    exact fun H' ι' F' g R' => post0 H' ι' F' g R'
  | ok x s1 =>
    rw [ef] at post0
    have run : ∀ {G : V → Hp → Prop}, (∀ v H' ι' F', Grow F ι F' ι' → RelH T P ι' F' s1 H' → Rp T F' ι' x v → G v H') → t1 σ H G := fun {G} h => by
      refine d1 σ H P ι F δ s G R E ?_
      rw [ef]
      exact h
    cases x with
    | lst xs =>
      refine .inl (.inl ?_)
      show t1 σ H _
      refine run fun v H1 ι1 F1 g1 R1 r1 => ?_
      unfold Rp at r1
      obtain ⟨a, vs, rfl, h1, h2⟩ := r1
      exact ⟨a, rfl, ⟨vs, SqL.of (R1.sub _ _ h1)⟩, lc_run hs ((walks_list (SqL.of h1) h2).toP P) R1 (E.mono g1) (Post.mono g1 post0)⟩
    | scr ns =>
      refine .inl (.inl ?_)
      show t1 σ H _
      refine run fun v H1 ι1 F1 g1 R1 r1 => ?_
      unfold Rp at r1
      obtain ⟨a, rfl, h1⟩ := r1
      exact ⟨a, rfl, ⟨_, sql_mono R1.sub h1⟩, lc_run hs ((walks_list h1 (rps_ints ns)).toP P) R1 (E.mono g1) (Post.mono g1 post0)⟩
    | tup xs =>
      refine .inl (.inr ?_)
      show t1 σ H _
      refine run fun v H1 ι1 F1 g1 R1 r1 => ?_
      obtain ⟨a, vs, rfl, h1, h0, h2⟩ := tp_of R1 r1
      exact ⟨a, rfl, ⟨vs, SqT.of h1⟩, lc_run hs ((walks_tup h0 h2).toP P) R1 (E.mono g1) (Post.mono g1 post0)⟩
    | str z =>
      refine .inr ?_
      show t1 σ H _
      refine run fun v H1 ι1 F1 g1 R1 r1 => ?_
      unfold Rp at r1
      exact ⟨S z, r1, lc_run hs ((walks_str z).toP P) R1 (E.mono g1) (Post.mono g1 post0)⟩
    | loc n =>
      refine .inl (.inl ?_)
      show t1 σ H _
      refine run fun v H1 ι1 F1 g1 R1 r1 => ?_
      have post1 : Post T P (Rp T) Q (fun c H' => W (.ref (T.ca c)) none σ H') F ι (match itCel (.loc n) s1 with
        | some (ds, s2, h) => backO h (lcL t c e (wipeE δ (own.map (·.2))) ds [] s2)
        | none => .stuck) := post0
      unfold Rp at r1
      obtain ⟨a, e1, rfl⟩ := r1
      unfold itCel at post1
      dsimp only at post1
      cases hs1 : s1[n]? with
      | none => rw [hs1] at post1; exact post1.elim
      | some cl =>
        rw [hs1] at post1
        cases cl with
        | lst xs =>
          obtain ⟨vs, h1, h2, h3, h4, R2⟩ := R1.hold hs1 e1
          exact ⟨a, rfl, ⟨vs, SqL.of h1⟩, lc_run hs (walksP_cell (P := upd P a (.lst vs)) upd_same h2) R2 (E.mono g1) (post_back h4 e1 h2 (Post.mono g1 post1))⟩
        | _ => exact post1.elim
    | _ => exact post0.elim
end
end Mp
/-! # MpN -/
namespace Mp
open PySem PySem.Spec PyProof.Rows L2
/-! ## defs, wherever they stand -/
structure Okd (T : Tb) (P : Program) (w : World) (mg : Str → Option Value) (base : Heap) (f : Addr) (k n : Nat) (φ : List D → Sto → Res D) : Prop where
  ex : ∃ (fd : FuncData) (ps : List Str), PySem.W.keepIn T.K (.ref f) = true ∧ Binds T.K fd ps [] ∧ FnOk P w T.K mg base (L2.CX P w) k f fd ps (spD T n φ)
section
variable {T : Tb} {P : Program} {w : World} {mg : Str → Option Value} {base : Heap} {f : Addr} {k n : Nat} {φ : List D → Sto → Res D}
theorem Okd.cl {x : Str} (h : Okd T P w mg base f k n φ) (g : mg x = some (.ref f)) : Cl T P w mg base x k n φ := by
  obtain ⟨fd, ps, h1, h2, h3⟩ := h.ex
  exact ⟨f, fd, ps, g, h1, h2, h3⟩
theorem Okd.mc {c : Nat} {m : Str} (h : Okd T P w mg base f k n φ) (hc : Cls T.K (T.ca c)) (hm : Meth T.K (T.ca c) m f) : Mc T P w mg base c m k n φ := by
  obtain ⟨fd, ps, h1, h2, h3⟩ := h.ex
  exact ⟨f, fd, ps, hc, hm, h2, h3⟩
theorem Okd.mkr {c : Nat} {x : Str} (h : Okd T P w mg base f k n φ) (hm : Mk T.K (T.ca c) f) (g : mg x = some (.ref (T.ca c))) : Mkc T P w mg base c x k n φ := by
  obtain ⟨fd, ps, h1, h2, h3⟩ := h.ex
  exact ⟨f, fd, ps, hm, g, h2, h3⟩
/-- what tells nothing is kept by every def -/
theorem fn_stuck {fd : FuncData} {ps : List Str} {CX : CXT} {K : PySem.W.Frag} : FnOk P w K mg base CX k f fd ps (spD T n fun _ _ => .stuck) := by
  have no : ∀ {vs H Q E}, spD T n (fun _ _ => .stuck) vs H Q E → False := fun {vs H Q E} h => by
    obtain ⟨_, _, _, _, _, _, _, _, post⟩ := h
    exact post
  exact ⟨fun _ _ _ _ h => (no h).elim, fun _ _ _ _ _ _ _ _ _ _ _ _ _ h => (no h).elim⟩
theorem Okd.zero {fd : FuncData} {ps : List Str} (h1 : PySem.W.keepIn T.K (.ref f) = true) (h2 : Binds T.K fd ps []) : Okd T P w mg base f k n fun _ _ => .stuck := ⟨fd, ps, h1, h2, fn_stuck⟩
end
end Mp
/-! # MpS -/
namespace Mp
open PySem PySem.Spec L2
/-! ## rows for computing with the deep program -/
section
variable {α β : Type}
@[simp] theorem bind_ok {a : α} {s : Sto} {k : α → Sto → Res β} : (Res.ok a s).bind k = k a s := rfl
@[simp] theorem bind_exc {c : Nat} {s : Sto} {k : α → Sto → Res β} : (Res.exc c s : Res α).bind k = .exc c s := rfl
@[simp] theorem bind_stuck {k : α → Sto → Res β} : (Res.stuck : Res α).bind k = .stuck := rfl
@[simp] theorem out_ok {δ : Env} {a : α} {s : Sto} {k : α → Sto → Out} : (Res.ok a s).out δ k = k a s := rfl
@[simp] theorem out_exc {δ : Env} {c : Nat} {s : Sto} {k : α → Sto → Out} : (Res.exc c s : Res α).out δ k = .ex c δ s := rfl
@[simp] theorem out_stuck {δ : Env} {k : α → Sto → Out} : (Res.stuck : Res α).out δ k = .stuck := rfl
end
section
variable {δ : Env} {s : Sto}
@[simp] theorem then_nx {k : DS} : (Out.nx δ s).andThen k = k δ s := rfl
@[simp] theorem then_rt {k : DS} {d : D} : (Out.rt d s).andThen k = .rt d s := rfl
@[simp] theorem then_bk {k : DS} : (Out.bk δ s).andThen k = .bk δ s := rfl
@[simp] theorem then_ct {k : DS} : (Out.ct δ s).andThen k = .ct δ s := rfl
@[simp] theorem then_ex {k : DS} {c : Nat} : (Out.ex c δ s).andThen k = .ex c δ s := rfl
@[simp] theorem then_stuck {k : DS} : Out.stuck.andThen k = .stuck := rfl
@[simp] theorem cut_same {d : D} : cut s.length d s = .ok d s := by unfold cut; rw [if_pos rfl]
@[simp] theorem cutX_same {c : Nat} : cutX s.length c s = .exc c s := by unfold cutX; rw [if_pos rfl]
@[simp] theorem cut_len {n : Nat} {d : D} (h : s.length = n) : cut n d s = .ok d s := by subst h; exact cut_same
theorem cutX_len {n : Nat} {c : Nat} (h : s.length = n) : cutX n c s = .exc c s := by subst h; exact cutX_same
@[simp] theorem cut_nil {d : D} : cut 0 d [] = .ok d [] := rfl
@[simp] theorem cutX_nil {c : Nat} : cutX 0 c [] = .exc c [] := rfl
@[simp] theorem fin_rt {n : Nat} {d : D} : finO n (.rt d s) = cut n d s := rfl
@[simp] theorem fin_nx {n : Nat} : finO n (.nx δ s) = cut n .non s := rfl
@[simp] theorem fin_ex {n c : Nat} : finO n (.ex c δ s) = cutX n c s := rfl
@[simp] theorem fin_stuck {n : Nat} : finO n .stuck = .stuck := rfl
@[simp] theorem dC_eq {d : D} : dC d δ s = .ok d s := rfl
@[simp] theorem dVar_eq {i : Nat} : dVar i δ s = match δ[i]? with
  | some (some d) => .ok d s
  | _ => .stuck := rfl
@[simp] theorem aNil_eq : aNil δ s = .ok [] s := rfl
@[simp] theorem aCons_eq {f : DE} {g : DA} : aCons f g δ s = (f δ s).bind fun x s1 => (g δ s1).bind fun xs s2 => .ok (x :: xs) s2 := rfl
@[simp] theorem dOp_eq {op : DOp} {f g : DE} : dOp op f g δ s = (f δ s).bind fun x s1 => (g δ s1).bind fun y s2 => op x y s2 := rfl
@[simp] theorem dCall_eq {φ : List D → Sto → Res D} {f : DA} : dCall φ f δ s = (f δ s).bind fun ds s1 => φ ds s1 := rfl
@[simp] theorem dBi_eq {φ : DB} {f : DA} : dBi φ f δ s = (f δ s).bind fun ds s1 => φ ds s1 := rfl
@[simp] theorem sSeq_eq {f g : DS} : sSeq f g δ s = (f δ s).andThen g := rfl
@[simp] theorem sSet_eq {i : Nat} {f : DE} : sSet i f δ s = (f δ s).out δ fun d s1 => .nx (δ.set i (some d)) s1 := rfl
@[simp] theorem sRet_eq {f : DE} : sRet f δ s = (f δ s).out δ fun d s1 => .rt d s1 := rfl
@[simp] theorem sRetN_eq : sRetN δ s = .rt .non s := rfl
@[simp] theorem sPass_eq : sPass δ s = .nx δ s := rfl
@[simp] theorem sBrk_eq : sBrk δ s = .bk δ s := rfl
@[simp] theorem sCt_eq : sCt δ s = .ct δ s := rfl
@[simp] theorem sDrop_eq {f : DE} : sDrop f δ s = (f δ s).out δ fun _ s1 => .nx δ s1 := rfl
@[simp] theorem sIf_eq {c : DT} {f g : DS} : sIf c f g δ s = (c δ s).out δ fun b s1 => if b = true then f δ s1 else g δ s1 := by
  unfold sIf
  cases c δ s with
  | ok b s1 => cases b <;> rfl
  | _ => rfl
@[simp] theorem tAnd_eq {f g : DT} : tAndD f g δ s = (f δ s).bind fun b s1 => if b = true then g δ s1 else .ok false s1 := by
  unfold tAndD
  cases f δ s with
  | ok b s1 => cases b <;> rfl
  | _ => rfl
@[simp] theorem tOr_eq {f g : DT} : tOrD f g δ s = (f δ s).bind fun b s1 => if b = true then .ok true s1 else g δ s1 := by
  unfold tOrD
  cases f δ s with
  | ok b s1 => cases b <;> rfl
  | _ => rfl
@[simp] theorem tNot_eq {f : DT} : tNotD f δ s = (f δ s).bind fun b s1 => .ok (!b) s1 := rfl
@[simp] theorem tst_eq {f : DE} : tst f δ s = (f δ s).bind fun x s1 => match x with
  | .bl b => .ok b s1
  | _ => .stuck := rfl
@[simp] theorem dIfE_eq {c : DT} {f g : DE} : dIfE c f g δ s = (c δ s).bind fun b s1 => if b = true then f δ s1 else g δ s1 := by
  unfold dIfE
  cases c δ s with
  | ok b s1 => cases b <;> rfl
  | _ => rfl
@[simp] theorem dAnd_eq {f g : DE} : dAndV f g δ s = (f δ s).bind fun x s1 => match x with
  | .bl true => g δ s1
  | .bl false => .ok (.bl false) s1
  | _ => .stuck := rfl
@[simp] theorem dOr_eq {f g : DE} : dOrV f g δ s = (f δ s).bind fun x s1 => match x with
  | .bl true => .ok (.bl true) s1
  | .bl false => g δ s1
  | _ => .stuck := rfl
@[simp] theorem dNot_eq {f : DE} : dNotV f δ s = (f δ s).bind fun x s1 => match x with
  | .bl b => .ok (.bl (!b)) s1
  | _ => .stuck := rfl
@[simp] theorem dChain_eq {op op' : DOp} {f g h : DE} : dChain op op' f g h δ s = (f δ s).bind fun x s1 => (g δ s1).bind fun y s2 => (op x y s2).bind fun z s3 => match z with
  | .bl true => (h δ s3).bind fun w s4 => op' y w s4
  | .bl false => .ok (.bl false) s3
  | _ => .stuck := rfl
@[simp] theorem dTup_eq {f : DA} : dTup f δ s = (f δ s).bind fun xs s1 => if xs.length ≤ lim then .ok (.tup xs) s1 else .stuck := rfl
@[simp] theorem dLst_eq {f : DA} : dLst f δ s = (f δ s).bind fun xs s1 => if xs.length ≤ lim then .ok (.lst xs) s1 else .stuck := rfl
@[simp] theorem dUn_eq {g : Int → Int} {f : DE} : dUn g f δ s = (f δ s).bind fun x s1 => match x with
  | .int i => .ok (.int (g i)) s1
  | _ => .stuck := rfl
@[simp] theorem dSl_eq {f : DE} {lo hi : DOI} : dSl f lo hi δ s = (f δ s).bind fun x s1 => (lo δ s1).bind fun l s2 => (hi δ s2).bind fun u s3 => oSl x l u s3 := rfl
theorem oSl_str {z : List Nat} {lo hi : Option Int} (h : z.length ≤ lim) : oSl (.str z) lo hi s = .ok (.str (cutL z lo hi)) s := if_pos h
@[simp] theorem pNone_eq : pNone δ s = .ok none s := rfl
@[simp] theorem pSome_eq {f : DE} : pSome f δ s = (f δ s).bind fun x s1 => match x with
  | .int i => .ok (some i) s1
  | _ => .stuck := rfl
@[simp] theorem tgN_eq {i : Nat} {d : D} : tgN i d δ = some (δ.set i (some d)) := rfl
@[simp] theorem tgT_eq {ts : List DTg} {xs : List D} : tgT ts (.tup xs) δ = tgs ts xs δ := rfl
@[simp] theorem tgs_nil : tgs [] [] δ = some δ := rfl
@[simp] theorem tgs_cons {t : DTg} {ts : List DTg} {d : D} {ds : List D} : tgs (t :: ts) (d :: ds) δ = (t d δ).bind fun δ1 => tgs ts ds δ1 := rfl
@[simp] theorem sAsg_eq {f : DE} {t : DTg} : sAsg f t δ s = (f δ s).out δ fun d s1 => match t d δ with
  | some δ1 => .nx δ1 s1
  | none => .stuck := rfl
/-! ### loops -/
@[simp] theorem sFor_eq {it : DIt} {t : DTg} {b : DS} : sFor it t b δ s = (it δ s).out δ fun ds s1 => forL t b ds δ s1 := rfl
@[simp] theorem forL_nil {t : DTg} {b : DS} : forL t b [] δ s = .nx δ s := rfl
theorem forL_cons {t : DTg} {b : DS} {d : D} {r : List D} : forL t b (d :: r) δ s = match t d δ with
  | none => .stuck
  | some δ1 => match b δ1 s with
    | .nx δ2 s2 => forL t b r δ2 s2
    | .ct δ2 s2 => forL t b r δ2 s2
    | .bk δ2 s2 => .nx δ2 s2
    | o => o := rfl
theorem forL_next {t : DTg} {b : DS} {d : D} {r : List D} {δ1 δ2 : Env} {s2 : Sto} (h : t d δ = some δ1) (k : b δ1 s = .nx δ2 s2) : forL t b (d :: r) δ s = forL t b r δ2 s2 := by
  rw [forL_cons, h]
  dsimp only
  rw [k]
theorem forL_stop {t : DTg} {b : DS} {d e : D} {r : List D} {δ1 : Env} {s2 : Sto} (h : t d δ = some δ1) (k : b δ1 s = .rt e s2) : forL t b (d :: r) δ s = .rt e s2 := by
  rw [forL_cons, h]
  dsimp only
  rw [k]
end
theorem forL_ok (I : Nat → Env → Sto → Prop) {t : DTg} {b : DS} : ∀ (ds : List D) (n : Nat), (∀ i d δ s, ds[i]? = some d → I (n + i) δ s → ∃ δ1 δ2 s2, t d δ = some δ1 ∧ (b δ1 s = .nx δ2 s2 ∨ b δ1 s = .ct δ2 s2) ∧ I (n + i + 1) δ2 s2) →
    ∀ (δ : Env) (s : Sto), I n δ s → ∃ δ' s', forL t b ds δ s = .nx δ' s' ∧ I (n + ds.length) δ' s'
  | [], n, _, δ, s, h => ⟨δ, s, rfl, h⟩
  | d :: r, n, turn, δ, s, h => by
    obtain ⟨δ1, δ2, s2, h1, h2, h3⟩ := turn 0 d δ s rfl h
    obtain ⟨δ', s', e, i⟩ := forL_ok I r (n + 1) (fun i d δ s hd hi => by
      have := turn (i + 1) d δ s (by simpa using hd) (by rw [show n + (i + 1) = n + 1 + i by omega]; exact hi)
      rw [show n + (i + 1) = n + 1 + i by omega] at this
      exact this) δ2 s2 h3
    refine ⟨δ', s', ?_, by rw [List.length_cons, show n + (r.length + 1) = n + 1 + r.length by omega]; exact i⟩
    rw [forL_cons, h1]
    dsimp only
    rcases h2 with h2 | h2 <;> rw [h2] <;> exact e
section
variable {δ : Env} {s : Sto}
@[simp] theorem sWh_eq {n : Nat} {c : DT} {b : DS} : sWh n c b δ s = whL c b n δ s := rfl
@[simp] theorem itSeq_eq {f : DE} : itSeq f δ s = (f δ s).bind fun x s1 => match x with
  | .lst xs => .ok xs s1
  | .scr ns => .ok (ns.map D.int) s1
  | .tup xs => .ok xs s1
  | _ => .stuck := by
  unfold itSeq
  cases f δ s with
  | ok x s1 => cases x <;> rfl
  | _ => rfl
@[simp] theorem itR1_eq {f : DA} : itR1 f δ s = (f δ s).bind fun xs s1 => match xs with
  | [.int n] => if small62 n = true then .ok (intsD 0 n.toNat) s1 else .stuck
  | _ => .stuck := rfl
@[simp] theorem itR2_eq {f : DA} : itR2 f δ s = (f δ s).bind fun xs s1 => match xs with
  | [.int a, .int b] => if (small62 a && small62 b) = true then .ok (intsD a (b - a).toNat) s1 else .stuck
  | _ => .stuck := rfl
@[simp] theorem itZip_eq {f : DA} : itZip f δ s = (f δ s).bind fun xs s1 => match xs with
  | [.lst a, .lst b] => .ok (zipD a b) s1
  | [.tup a, .tup b] => .ok (zipD a b) s1
  | _ => .stuck := rfl
@[simp] theorem dLc_eq {it : DIt} {t : DTg} {c : DT} {e : DE} {vs : List Nat} : dLc it t c e vs δ s = (it δ s).bind fun ds s1 => lcL t c e (wipeE δ vs) ds [] s1 := rfl
@[simp] theorem lcL_nil {t : DTg} {c : DT} {e : DE} {acc : List D} : lcL t c e δ [] acc s = .ok (.lst acc) s := rfl
theorem lcL_cons {t : DTg} {c : DT} {e : DE} {acc : List D} {d : D} {r : List D} : lcL t c e δ (d :: r) acc s = match t d δ with
  | none => .stuck
  | some δ1 => match c δ1 s with
    | .ok true s2 => match e δ1 s2 with
      | .ok y s3 => if acc.length < lim then lcL t c e δ r (acc ++ [y]) s3 else .stuck
      | _ => .stuck
    | .ok false s2 => lcL t c e δ r acc s2
    | _ => .stuck := rfl
@[simp] theorem cYes_eq : cYes δ s = .ok true s := rfl
@[simp] theorem wipeE_nil : wipeE δ [] = δ := rfl
@[simp] theorem wipeE_cons {v : Nat} {vs : List Nat} : wipeE δ (v :: vs) = (wipeE δ vs).set v none := rfl
/-! ### operators -/
@[simp] theorem oAdd_int {a b : Int} : oAdd (.int a) (.int b) s = .ok (.int (a + b)) s := rfl
@[simp] theorem oAdd_str {a b : List Nat} : oAdd (.str a) (.str b) s = if a.length + b.length ≤ lim then .ok (.str (a ++ b)) s else .stuck := rfl
@[simp] theorem oAdd_tup {a b : List D} : oAdd (.tup a) (.tup b) s = if a ≠ [] ∧ a.length + b.length ≤ lim then .ok (.tup (a ++ b)) s else .stuck := rfl
@[simp] theorem oAdd_lst {a b : List D} : oAdd (.lst a) (.lst b) s = if a.length + b.length ≤ lim then .ok (.lst (a ++ b)) s else .stuck := rfl
@[simp] theorem oInt_int {c : Int → Int → Bool} {g : Int → Int → Int} {a b : Int} : oInt c g (.int a) (.int b) s = if c a b = true then .ok (.int (g a b)) s else .stuck := rfl
@[simp] theorem oCmp_int {g : Int → Int → Bool} {a b : Int} : oCmp g (.int a) (.int b) s = .ok (.bl (g a b)) s := rfl
theorem oEq_sc {n b : Bool} {x y : D} (h : scD x y = some b) : oEqG n x y s = .ok (.bl (n != b)) s := by unfold oEqG; rw [h]
section
variable {n : Bool} {a b : Int} {x y : List Nat} {p q : Bool}
@[simp] theorem oEq_int : oEqG n (.int a) (.int b) s = .ok (.bl (n != (a == b))) s := rfl
@[simp] theorem oEq_str : oEqG n (.str x) (.str y) s = .ok (.bl (n != (x == y))) s := rfl
@[simp] theorem oEq_bl : oEqG n (.bl p) (.bl q) s = .ok (.bl (n != (p == q))) s := rfl
@[simp] theorem oEq_nn : oEqG n .non .non s = .ok (.bl (n != true)) s := rfl
@[simp] theorem oEq_ni : oEqG n .non (.int a) s = .ok (.bl (n != false)) s := rfl
@[simp] theorem oEq_ns : oEqG n .non (.str x) s = .ok (.bl (n != false)) s := rfl
@[simp] theorem oEq_nb : oEqG n .non (.bl p) s = .ok (.bl (n != false)) s := rfl
@[simp] theorem oEq_in : oEqG n (.int a) .non s = .ok (.bl (n != false)) s := rfl
@[simp] theorem oEq_sn : oEqG n (.str x) .non s = .ok (.bl (n != false)) s := rfl
@[simp] theorem oEq_bn : oEqG n (.bl p) .non s = .ok (.bl (n != false)) s := rfl
@[simp] theorem oEq_is : oEqG n (.int a) (.str x) s = .ok (.bl (n != false)) s := rfl
@[simp] theorem oEq_si : oEqG n (.str x) (.int a) s = .ok (.bl (n != false)) s := rfl
@[simp] theorem oEq_bs : oEqG n (.bl p) (.str x) s = .ok (.bl (n != false)) s := rfl
@[simp] theorem oEq_sb : oEqG n (.str x) (.bl p) s = .ok (.bl (n != false)) s := rfl
end
@[simp] theorem oIs_eq {n : Bool} {x : D} : oIs n x .non s = .ok (.bl (n != isNon x)) s := rfl
@[simp] theorem isNon_non : isNon .non = true := rfl
@[simp] theorem isNon_int {a : Int} : isNon (.int a) = false := rfl
@[simp] theorem isNon_str {a : List Nat} : isNon (.str a) = false := rfl
@[simp] theorem isNon_bl {a : Bool} : isNon (.bl a) = false := rfl
@[simp] theorem isNon_tup {a : List D} : isNon (.tup a) = false := rfl
@[simp] theorem isNon_lst {a : List D} : isNon (.lst a) = false := rfl
@[simp] theorem isNon_loc {a : Nat} : isNon (.loc a) = false := rfl
@[simp] theorem isNon_exc {a : Nat} : isNon (.exc a) = false := rfl
@[simp] theorem isNon_obj {a : Nat} {ns : List Nat} {vs : List D} : isNon (.obj a ns vs) = false := rfl
@[simp] theorem lqOf_lst {xs : List D} : lqOf s (.lst xs) = some xs := rfl
@[simp] theorem lqOf_scr {ns : List Int} : lqOf s (.scr ns) = some (ns.map D.int) := rfl
@[simp] theorem lqOf_tup {xs : List D} : lqOf s (.tup xs) = none := rfl
@[simp] theorem lsOf_lst {xs : List D} : lsOf s (.lst xs) = some xs := rfl
@[simp] theorem tpOf_tup {xs : List D} : tpOf (.tup xs) = some xs := rfl
@[simp] theorem oIx_lst {xs : List D} {i : Int} : oIx (.lst xs) (.int i) s = match atI xs i with
  | some d => .ok d s
  | none => .stuck := rfl
@[simp] theorem oIx_tup {xs : List D} {i : Int} : oIx (.tup xs) (.int i) s = match atI xs i with
  | some d => .ok d s
  | none => .stuck := rfl
@[simp] theorem oIx_scr {xs : List Int} {i : Int} : oIx (.scr xs) (.int i) s = match atI (xs.map D.int) i with
  | some d => .ok d s
  | none => .stuck := rfl
@[simp] theorem oIx_str {z : List Nat} {i : Int} : oIx (.str z) (.int i) s = if z.length ≤ lim then match atI z i with
    | some c => .ok (.str [c]) s
    | none => .stuck
    else .stuck := rfl
@[simp] theorem bLen_lst {xs : List D} : bLen [.lst xs] s = .ok (.int xs.length) s := rfl
@[simp] theorem bLen_tup {xs : List D} : bLen [.tup xs] s = .ok (.int xs.length) s := rfl
@[simp] theorem bLen_scr {xs : List Int} : bLen [.scr xs] s = .ok (.int xs.length) s := by unfold bLen; simp
@[simp] theorem bLen_str {z : List Nat} : bLen [.str z] s = if z.length ≤ lim then .ok (.int z.length) s else .stuck := rfl
@[simp] theorem b2I_eq {g : Int → Int → Int} {a b : Int} : b2I g [.int a, .int b] s = .ok (.int (g a b)) s := rfl
theorem lim_eq : lim = 1000000 := rfl
theorem cMul_l {i j : Int} (h : -18446744073709551616 < i ∧ i < 18446744073709551616) : cMul i j = true := by
  unfold cMul
  simp only [Bool.or_eq_true, Bool.and_eq_true, decide_eq_true_eq]
  left
  have e : (2 : Int) ^ 64 = 18446744073709551616 := by decide
  rw [e]
  exact h
theorem cMul_r {i j : Int} (h : -18446744073709551616 < j ∧ j < 18446744073709551616) : cMul i j = true := by
  unfold cMul
  simp only [Bool.or_eq_true, Bool.and_eq_true, decide_eq_true_eq]
  right
  have e : (2 : Int) ^ 64 = 18446744073709551616 := by decide
  rw [e]
  exact h
@[simp] theorem atI_natc {α : Type} {xs : List α} {i : Nat} : atI xs (i : Int) = xs[i]? := by
  unfold atI ixN
  by_cases h : i < xs.length
  · simp [h]
  · simp [h]
@[simp] theorem atI_lit {α : Type} {xs : List α} {i : Nat} : atI xs (no_index (OfNat.ofNat i)) = xs[i]? := atI_natc (i := i)
theorem atI_nat {α : Type} {xs : List α} {i : Nat} (h : i < xs.length) : atI xs (i : Int) = xs[i]? := by
  unfold atI ixN
  simp [h]
theorem atI_int {α : Type} {xs : List α} {i : Int} (h0 : 0 ≤ i) (h1 : i < xs.length) : atI xs i = xs[i.toNat]? := by
  obtain ⟨n, rfl⟩ := Int.eq_ofNat_of_zero_le h0
  exact atI_nat (by omega)
theorem atI_mem {α : Type} {xs : List α} {i : Int} (h0 : 0 ≤ i) (h1 : i < xs.length) : ∃ d, atI xs i = some d ∧ d ∈ xs := by
  rw [atI_int h0 h1]
  have h : i.toNat < xs.length := by omega
  exact ⟨xs[i.toNat], by simp [h], List.getElem_mem h⟩
theorem atI_ex {α : Type} {xs : List α} {i : Int} {Q : α → Prop} (h0 : 0 ≤ i) (h1 : i < xs.length) (h : ∀ d ∈ xs, Q d) : ∃ d, atI xs i = some d ∧ Q d :=
  let ⟨d, e, m⟩ := atI_mem h0 h1
  ⟨d, e, h d m⟩
theorem atI_cons0 {α : Type} {x : α} {xs : List α} : atI (x :: xs) (0 : Int) = some x := by
  rw [atI_int (by omega) (by simp)]
  rfl
end
/-! ### exceptions, cells, methods, texts -/
section
variable {δ : Env} {s : Sto}
@[simp] theorem sRaise_eq {c : Nat} : sRaise c δ s = .ex c δ s := rfl
theorem sTry_eq {anc : Nat → Nat → Option Bool} {c : Nat} {i : Option Nat} {f g : DS} : sTry anc c i f g δ s = match f δ s with
  | .ex k δ1 s1 => match anc k c with
    | some true => (g (setE i (some (.exc k)) δ1) s1).unset i
    | some false => .ex k δ1 s1
    | none => .stuck
  | o => o := rfl
theorem sTry_rt {anc : Nat → Nat → Option Bool} {c : Nat} {i : Option Nat} {f g : DS} {d : D} {s1 : Sto} (h : f δ s = .rt d s1) : sTry anc c i f g δ s = .rt d s1 := by rw [sTry_eq, h]
theorem sTry_nx {anc : Nat → Nat → Option Bool} {c : Nat} {i : Option Nat} {f g : DS} {δ1 : Env} {s1 : Sto} (h : f δ s = .nx δ1 s1) : sTry anc c i f g δ s = .nx δ1 s1 := by rw [sTry_eq, h]
theorem sTry_ex {anc : Nat → Nat → Option Bool} {c k : Nat} {i : Option Nat} {f g : DS} {δ1 : Env} {s1 : Sto} (h : f δ s = .ex k δ1 s1) (hk : anc k c = some true) : sTry anc c i f g δ s = (g (setE i (some (.exc k)) δ1) s1).unset i := by rw [sTry_eq, h]; dsimp only; rw [hk]
@[simp] theorem setE_some {i : Nat} {o : Option D} : setE (some i) o δ = δ.set i o := rfl
@[simp] theorem setE_none {o : Option D} : setE none o δ = δ := rfl
@[simp] theorem unset_nx {i : Option Nat} : (Out.nx δ s).unset i = .nx (setE i none δ) s := rfl
@[simp] theorem unset_rt {i : Option Nat} {d : D} : (Out.rt d s).unset i = .rt d s := rfl
@[simp] theorem unset_ct {i : Option Nat} : (Out.ct δ s).unset i = .ct (setE i none δ) s := rfl
@[simp] theorem dLstC_eq {f : DA} : dLstC f δ s = (f δ s).bind fun xs s1 => if xs.length ≤ lim then .ok (.loc s1.length) (s1 ++ [.lst xs]) else .stuck := rfl
@[simp] theorem sIxS_eq {f fo fi : DE} : sIxS f fo fi δ s = (f δ s).out δ fun d s1 => (fo δ s1).out δ fun o s2 => (fi δ s2).out δ fun i s3 => match setAt o i d s3 with
  | some s4 => .nx δ s4
  | none => .stuck := rfl
@[simp] theorem setAt_loc {n : Nat} {k : Int} {d : D} : setAt (.loc n) (.int k) d s = match s[n]? with
    | some (.lst xs) => match ixN xs.length k with
      | some j => some (s.set n (.lst (xs.set j d)))
      | none => none
    | _ => none := rfl
@[simp] theorem lqOf_loc {n : Nat} : lqOf s (.loc n) = match s[n]? with
    | some (.lst xs) => some xs
    | _ => none := rfl
@[simp] theorem lsOf_loc {n : Nat} : lsOf s (.loc n) = match s[n]? with
    | some (.lst xs) => some xs
    | _ => none := rfl
@[simp] theorem oIx_loc {n : Nat} {i : Int} : oIx (.loc n) (.int i) s = match (lqOf s (.loc n)).or none with
  | some xs => match atI xs i with
    | some d => .ok d s
    | none => .stuck
  | none => .stuck := rfl
@[simp] theorem dMt_eq {ty : String} {op : DM} {f : DE} {fa : DA} : dMt ty op f fa δ s = (f δ s).bind fun x s1 => if recvTy s1 x = some ty then (fa δ s1).bind fun xs s2 => op x xs s2 else .stuck := rfl
@[simp] theorem recvTy_str {z : List Nat} : recvTy s (.str z) = some "str" := rfl
@[simp] theorem recvTy_lst {z : List D} : recvTy s (.lst z) = some "list" := rfl
@[simp] theorem recvTy_scr {z : List Int} : recvTy s (.scr z) = some "list" := rfl
@[simp] theorem recvTy_loc {n : Nat} : recvTy s (.loc n) = match s[n]? with
    | some (.lst _) => some "list"
    | some (.dct _ _) => some "dict"
    | _ => none := rfl
@[simp] theorem mAppend_eq {n : Nat} {d : D} : mAppend (.loc n) [d] s = match s[n]? with
    | some (.lst xs) => if xs.length < lim then .ok .non (s.set n (.lst (xs ++ [d]))) else .stuck
    | _ => .stuck := rfl
@[simp] theorem itAny_eq {f : DE} : itAny f δ s = (f δ s).bind fun x s1 => match x with
  | .lst xs => .ok xs s1
  | .scr ns => .ok (ns.map D.int) s1
  | .tup xs => .ok xs s1
  | .str z => .ok (z.map fun c => D.str [c]) s1
  | _ => .stuck := by
  unfold itAny
  cases f δ s with
  | ok x s1 => cases x <;> rfl
  | _ => rfl
@[simp] theorem oInA_sign {neg : Bool} {c : Nat} {z : List Nat} : oInA neg (.str [c]) (.str z) s = .ok (.bl (neg != decide (c ∈ z))) s := rfl
theorem oInA_lst {neg : Bool} {x : D} {ys : List D} : oInA neg x (.lst ys) s = if (flatD x && ys.all flatD) = true then .ok (.bl (neg != ys.any fun y => eqF y x)) s else .stuck := by
  unfold oInA
  split
  · rename_i h; cases h
  · rfl
@[simp] theorem oInA_tup {neg : Bool} {x : D} {ys : List D} : oInA neg x (.tup ys) s = if (flatD x && ys.all flatD) = true then .ok (.bl (neg != ys.any fun y => eqF y x)) s else .stuck := by
  unfold oInA
  split
  · rename_i h; cases h
  · rfl
@[simp] theorem dFmt_eq {f : DE} : dFmt f δ s = (f δ s).bind fun x s1 => match x with
  | .str z => if z.length ≤ lim then .ok (.str z) s1 else .stuck
  | .int i => if i.natAbs.log2 < 1920 then .ok (.str (strI i)) s1 else .stuck
  | _ => .stuck := rfl
@[simp] theorem dJs_nil {acc : List Nat} : dJs [] acc δ s = .ok (.str acc) s := rfl
@[simp] theorem dJs_cons {f : DE} {fs : List DE} {acc : List Nat} : dJs (f :: fs) acc δ s = (f δ s).bind fun x s1 => match x with
    | .str z => if (acc ++ z).length ≤ lim then dJs fs (acc ++ z) δ s1 else .stuck
    | _ => .stuck := rfl
@[simp] theorem oMulA_int {a b : Int} : oMulA (.int a) (.int b) s = if cMul a b = true then .ok (.int (a * b)) s else .stuck := rfl
@[simp] theorem oMulA_lst {xs : List D} {k : Int} : oMulA (.lst xs) (.int k) s = if xs.length * k.toNat ≤ lim ∧ -(2 ^ 62) ≤ k ∧ k < 2 ^ 62 then .ok (.lst (List.replicate k.toNat xs).flatten) s else .stuck := rfl
@[simp] theorem dRepl_eq {y z : Str} {f : DE} : dRepl y z f δ s = (f δ s).bind fun x s1 => match x with
  | .str a => if a.length + (a.length + 1) * z.length ≤ lim then .ok (.str (un (Txt.replace (S a) y z))) s1 else .stuck
  | _ => .stuck := rfl
@[simp] theorem bInt_int {i : Int} : bInt [.int i] s = .ok (.int i) s := rfl
@[simp] theorem bInt_bl {b : Bool} : bInt [.bl b] s = .ok (.int (if b then 1 else 0)) s := rfl
@[simp] theorem bInt_str {z : List Nat} : bInt [.str z] s = match PySem.intText? (S z) with
    | some n => if z.length ≤ 640 then .ok (.int n) s else .stuck
    | none => .stuck := rfl
@[simp] theorem bStr_int {i : Int} : bStr [.int i] s = if i.natAbs.log2 < 1920 then .ok (.str (strI i)) s else .stuck := rfl
@[simp] theorem bDivmod_int {i j : Int} : bDivmod [.int i, .int j] s = if (decide (0 < j) && decide (j < 1073741824)) = true then .ok (.tup [.int (i / j), .int (i % j)]) s else .stuck := rfl
/-- a comprehension without a test, its values by a function; with a test -/
theorem lcL_map {t : DTg} {e : DE} (f : D → D) : ∀ (ds acc : List D), acc.length + ds.length ≤ lim → (∀ d ∈ ds, ∃ δ1, t d δ = some δ1 ∧ e δ1 s = .ok (f d) s) → lcL t cYes e δ ds acc s = .ok (.lst (acc ++ ds.map f)) s
  | [], acc, _, _ => by simp
  | d :: ds, acc, hl, h => by
    obtain ⟨δ1, h1, h2⟩ := h d List.mem_cons_self
    rw [List.length_cons] at hl
    rw [lcL_cons, h1]
    dsimp only
    rw [cYes_eq]
    dsimp only
    rw [h2]
    dsimp only
    rw [if_pos (by omega), lcL_map f ds (acc ++ [f d]) (by rw [List.length_append, List.length_singleton]; omega) fun d' hd => h d' (List.mem_cons_of_mem _ hd), List.append_assoc, List.map_cons]
    rfl
theorem lcL_fil {t : DTg} {c : DT} {e : DE} (f : D → D) (p : D → Bool) : ∀ (ds acc : List D), acc.length + ds.length ≤ lim → (∀ d ∈ ds, ∃ δ1, t d δ = some δ1 ∧ c δ1 s = .ok (p d) s ∧ (p d = true → e δ1 s = .ok (f d) s)) → lcL t c e δ ds acc s = .ok (.lst (acc ++ (ds.filter p).map f)) s
  | [], acc, _, _ => by simp
  | d :: ds, acc, hl, h => by
    obtain ⟨δ1, h1, h2, h3⟩ := h d List.mem_cons_self
    rw [List.length_cons] at hl
    rw [lcL_cons, h1]
    dsimp only
    rw [h2]
    cases hp : p d with
    | false =>
      dsimp only
      rw [lcL_fil f p ds acc (by omega) fun d' hd => h d' (List.mem_cons_of_mem _ hd), List.filter_cons_of_neg (by rw [hp]; exact Bool.false_ne_true)]
    | true =>
      dsimp only
      rw [h3 hp]
      dsimp only
      rw [if_pos (by omega), lcL_fil f p ds (acc ++ [f d]) (by rw [List.length_append, List.length_singleton]; omega) fun d' hd => h d' (List.mem_cons_of_mem _ hd), List.append_assoc, List.filter_cons_of_pos hp, List.map_cons]
      rfl
theorem bools_map {α : Type} (g : α → Bool) : ∀ l : List α, boolsOf (l.map fun x => D.bl (g x)) = some (l.map g)
  | [] => rfl
  | x :: l => by
    show (boolsOf (l.map fun x => D.bl (g x))).map (g x :: ·) = _
    rw [bools_map g l]; rfl
end
end Mp
/-! # MpT -/
namespace Mp
open PySem PySem.Spec L2
/-! ## equality of nested lists and tuples, by the deep values -/
def okS (z : List Nat) : Bool := z.all fun c => decide (c < 1114112)
mutual
def datD : Nat → D → Bool
  | _, .non => true
  | _, .bl _ => true
  | _, .int _ => true
  | _, .str z => okS z
  | n + 1, .lst xs => datDs n xs
  | n + 1, .tup xs => datDs n xs
  | _, _ => false
def datDs : Nat → List D → Bool
  | _, [] => true
  | n, x :: xs => datD n x && datDs n xs
end
mutual
def eqD : D → D → Bool
  | .lst xs, .lst ys => eqDs xs ys
  | .tup xs, .tup ys => eqDs xs ys
  | .non, .non => true
  | .bl a, .bl b => a == b
  | .bl a, .int b => (if a then 1 else 0) == b
  | .int a, .bl b => a == (if b then 1 else 0)
  | .int a, .int b => a == b
  | .str a, .str b => a == b
  | _, _ => false
def eqDs : List D → List D → Bool
  | [], [] => true
  | x :: xs, y :: ys => eqD x y && eqDs xs ys
  | _, _ => false
end
mutual
theorem dat_ok : ∀ {n : Nat} {x : D}, datD n x = true → ∃ p, toP x = some p ∧ p.canLay0 = true ∧ p.depth ≤ n
  | _, .non, _ => ⟨_, rfl, rfl, Nat.zero_le _⟩
  | _, .bl _, _ => ⟨_, rfl, rfl, Nat.zero_le _⟩
  | _, .int _, _ => ⟨_, rfl, rfl, Nat.zero_le _⟩
  | n, .str z, h => ⟨.str (S z), rfl, by
      have h' : okS z = true := by cases n <;> exact h
      show PyData.strOk (S z) = true
      unfold PyData.strOk S
      unfold okS at h'
      rw [List.all_eq_true] at h'
      simp only [List.all_toArray, List.all_eq_true, decide_eq_true_eq]
      intro c hc
      simpa using h' c hc, Nat.zero_le _⟩
  | n + 1, .lst xs, h => by
    obtain ⟨ps, h1, h2, h3⟩ := dats_ok (n := n) (xs := xs) h
    exact ⟨.list ps, by unfold toP; rw [h1]; rfl, by unfold PyData.canLay0; exact h2, by unfold PyData.depth; omega⟩
  | n + 1, .tup xs, h => by
    obtain ⟨ps, h1, h2, h3⟩ := dats_ok (n := n) (xs := xs) h
    exact ⟨.tuple ps, by unfold toP; rw [h1]; rfl, by unfold PyData.canLay0; exact h2, by unfold PyData.depth; omega⟩
  | 0, .lst _, h => by cases h
  | 0, .tup _, h => by cases h
  | 0, .scr _, h => by cases h
  | _ + 1, .scr _, h => by cases h
  | 0, .dct _ _, h => by cases h
  | _ + 1, .dct _ _, h => by cases h
  | 0, .obj _ _ _, h => by cases h
  | _ + 1, .obj _ _ _, h => by cases h
  | 0, .loc _, h => by cases h
  | _ + 1, .loc _, h => by cases h
  | 0, .exc _, h => by cases h
  | _ + 1, .exc _, h => by cases h
  | 0, .cls _, h => by cases h
  | _ + 1, .cls _, h => by cases h
  | 0, .ty _, h => by cases h
  | _ + 1, .ty _, h => by cases h
theorem dats_ok : ∀ {n : Nat} {xs : List D}, datDs n xs = true → ∃ ps, toPs xs = some ps ∧ PyData.canLayAll0 ps = true ∧ PyData.depthAll ps ≤ n
  | _, [], _ => ⟨[], rfl, rfl, Nat.zero_le _⟩
  | n, x :: xs, h => by
    have h' : (datD n x && datDs n xs) = true := h
    rw [Bool.and_eq_true] at h'
    obtain ⟨p, h1, h2, h3⟩ := dat_ok h'.1
    obtain ⟨ps, h4, h5, h6⟩ := dats_ok h'.2
    exact ⟨p :: ps, by unfold toPs; rw [h1, h4], by unfold PyData.canLayAll0; rw [h2, h5]; rfl, by unfold PyData.depthAll; omega⟩
end
theorem S_beq (a b : List Nat) : (S a == S b) = (a == b) := by
  rw [beq_dec, beq_dec]
  exact decide_eq_decide.mpr ⟨fun h => S_inj h, fun h => by rw [h]⟩
theorem flat_l {x y : D} {p q : PyData} (fx : flatD x = true) (hy : ∃ m, datD m y = true) (ep : toP x = some p) (eq : toP y = some q) : PyData.eqv p q = eqD x y := by
  obtain ⟨m, hy⟩ := hy
  cases x <;> first | cases fx | skip
  all_goals
    cases ep
    cases y with
    | lst ys =>
      have e : (toPs ys).map PyData.list = some q := eq
      cases h : toPs ys with
      | none => rw [h] at e; cases e
      | some qs => rw [h] at e; cases e; rfl
    | tup ys =>
      have e : (toPs ys).map PyData.tuple = some q := eq
      cases h : toPs ys with
      | none => rw [h] at e; cases e
      | some qs => rw [h] at e; cases e; rfl
    | non => cases eq; rfl
    | bl _ => cases eq; rfl
    | int _ => cases eq; rfl
    | str _ => first | (cases eq; rfl) | (cases eq; exact S_beq _ _)
    | _ => cases m <;> cases hy
mutual
theorem eqv_ok : ∀ {n m : Nat} {x y : D} {p q : PyData}, datD n x = true → datD m y = true → toP x = some p → toP y = some q → PyData.eqv p q = eqD x y
  | n + 1, m, .lst xs, y, p, q, hx, hy, ep, eq => by
    obtain ⟨ps, h1, _, _⟩ := dats_ok (n := n) (xs := xs) hx
    have e : toP (.lst xs) = some (.list ps) := by unfold toP; rw [h1]; rfl
    rw [e] at ep; cases ep
    cases y with
    | lst ys =>
      cases m with
      | zero => cases hy
      | succ m =>
        obtain ⟨qs, h2, _, _⟩ := dats_ok (n := m) (xs := ys) hy
        have e2 : toP (.lst ys) = some (.list qs) := by unfold toP; rw [h2]; rfl
        rw [e2] at eq; cases eq
        unfold PyData.eqv eqD
        exact eqvs_ok (n := n) (m := m) hx hy h1 h2
    | tup ys =>
      cases m with
      | zero => cases hy
      | succ m =>
        obtain ⟨qs, h2, _, _⟩ := dats_ok (n := m) (xs := ys) hy
        have e2 : toP (.tup ys) = some (.tuple qs) := by unfold toP; rw [h2]; rfl
        rw [e2] at eq; cases eq
        rfl
    | non => cases eq; rfl
    | bl _ => cases eq; rfl
    | int _ => cases eq; rfl
    | str _ => cases eq; rfl
    | _ => cases m <;> cases hy
  | n + 1, m, .tup xs, y, p, q, hx, hy, ep, eq => by
    obtain ⟨ps, h1, _, _⟩ := dats_ok (n := n) (xs := xs) hx
    have e : toP (.tup xs) = some (.tuple ps) := by unfold toP; rw [h1]; rfl
    rw [e] at ep; cases ep
    cases y with
    | tup ys =>
      cases m with
      | zero => cases hy
      | succ m =>
        obtain ⟨qs, h2, _, _⟩ := dats_ok (n := m) (xs := ys) hy
        have e2 : toP (.tup ys) = some (.tuple qs) := by unfold toP; rw [h2]; rfl
        rw [e2] at eq; cases eq
        unfold PyData.eqv eqD
        exact eqvs_ok (n := n) (m := m) hx hy h1 h2
    | lst ys =>
      cases m with
      | zero => cases hy
      | succ m =>
        obtain ⟨qs, h2, _, _⟩ := dats_ok (n := m) (xs := ys) hy
        have e2 : toP (.lst ys) = some (.list qs) := by unfold toP; rw [h2]; rfl
        rw [e2] at eq; cases eq
        rfl
    | non => cases eq; rfl
    | bl _ => cases eq; rfl
    | int _ => cases eq; rfl
    | str _ => cases eq; rfl
    | _ => cases m <;> cases hy
  | 0, _, .lst _, _, _, _, hx, _, _, _ => by cases hx
  | 0, _, .tup _, _, _, _, hx, _, _, _ => by cases hx
  | n, m, .non, y, p, q, hx, hy, ep, eq => by cases ep; exact flat_l rfl ⟨m, hy⟩ rfl eq
  | n, m, .bl _, y, p, q, hx, hy, ep, eq => by cases ep; exact flat_l rfl ⟨m, hy⟩ rfl eq
  | n, m, .int _, y, p, q, hx, hy, ep, eq => by cases ep; exact flat_l rfl ⟨m, hy⟩ rfl eq
  | n, m, .str _, y, p, q, hx, hy, ep, eq => by cases ep; exact flat_l rfl ⟨m, hy⟩ rfl eq
  | n, _, .scr _, _, _, _, hx, _, _, _ => by cases n <;> cases hx
  | n, _, .dct _ _, _, _, _, hx, _, _, _ => by cases n <;> cases hx
  | n, _, .obj _ _ _, _, _, _, hx, _, _, _ => by cases n <;> cases hx
  | n, _, .loc _, _, _, _, hx, _, _, _ => by cases n <;> cases hx
  | n, _, .exc _, _, _, _, hx, _, _, _ => by cases n <;> cases hx
  | n, _, .cls _, _, _, _, hx, _, _, _ => by cases n <;> cases hx
  | n, _, .ty _, _, _, _, hx, _, _, _ => by cases n <;> cases hx
theorem eqvs_ok : ∀ {n m : Nat} {xs ys : List D} {ps qs : List PyData}, datDs n xs = true → datDs m ys = true → toPs xs = some ps → toPs ys = some qs → PyData.eqvAll ps qs = eqDs xs ys
  | _, _, [], ys, ps, qs, _, hy, ep, eq => by
    cases ep
    cases ys with
    | nil => cases eq; rfl
    | cons y ys =>
      unfold toPs at eq
      cases h1 : toP y with
      | none => rw [h1] at eq; cases eq
      | some q =>
        cases h2 : toPs ys with
        | none => rw [h1, h2] at eq; cases eq
        | some qs' => rw [h1, h2] at eq; cases eq; rfl
  | n, m, x :: xs, ys, ps, qs, hx, hy, ep, eq => by
    have hx' : (datD n x && datDs n xs) = true := hx
    rw [Bool.and_eq_true] at hx'
    unfold toPs at ep
    cases h3 : toP x with
    | none => rw [h3] at ep; cases ep
    | some p =>
      cases h4 : toPs xs with
      | none => rw [h3, h4] at ep; cases ep
      | some ps' =>
        rw [h3, h4] at ep; cases ep
        cases ys with
        | nil => cases eq; rfl
        | cons y ys =>
          have hy' : (datD m y && datDs m ys) = true := hy
          rw [Bool.and_eq_true] at hy'
          unfold toPs at eq
          cases h1 : toP y with
          | none => rw [h1] at eq; cases eq
          | some q =>
            cases h2 : toPs ys with
            | none => rw [h1, h2] at eq; cases eq
            | some qs' =>
              rw [h1, h2] at eq; cases eq
              unfold PyData.eqvAll eqDs
              rw [eqv_ok hx'.1 hy'.1 h3 h1, eqvs_ok hx'.2 hy'.2 h4 h2]
end
theorem shaped_of {p : PyData} (h1 : p.canLay0 = true) (h2 : p.depth ≤ 64) : SeqAt.shaped p = true := by
  unfold SeqAt.shaped
  rw [h1, decide_eq_true h2]; rfl
theorem scD_eqD {x y : D} {b : Bool} (h : scD x y = some b) : b = eqD x y := by
  unfold scD at h
  split at h <;> first | (cases h; rfl) | cases h
theorem noLoc {s : Sto} {n : Nat} {x : D} (h : datD n x = true) : toPc s x = toP x := by
  cases x with
  | lst xs => rfl
  | loc k => cases n <;> cases h
  | _ => rfl
theorem oEq_dat {b : Bool} {x y : D} {s : Sto} (hx : datD 64 x = true) (hy : datD 64 y = true) : oEqG b x y s = .ok (.bl (b != eqD x y)) s := by
  unfold oEqG
  cases h : scD x y with
  | some c => dsimp only; rw [scD_eqD h]
  | none =>
    obtain ⟨p, h1, h2, h3⟩ := dat_ok hx
    obtain ⟨q, h4, h5, h6⟩ := dat_ok hy
    rw [noLoc hx, noLoc hy, h1, h4]
    dsimp only
    rw [shaped_of h2 h3, shaped_of h5 h6, eqv_ok hx hy h1 h4]
    rfl
section
variable {b : Bool} {xs ys : List D} {s : Sto} {a : Int} {z : List Nat}
theorem oEq_ll (hx : datDs 63 xs = true) (hy : datDs 63 ys = true) : oEqG b (.lst xs) (.lst ys) s = .ok (.bl (b != eqDs xs ys)) s := by rw [oEq_dat (x := .lst xs) (y := .lst ys) hx hy]; unfold eqD; rfl
theorem oEq_tt (hx : datDs 63 xs = true) (hy : datDs 63 ys = true) : oEqG b (.tup xs) (.tup ys) s = .ok (.bl (b != eqDs xs ys)) s := by rw [oEq_dat (x := .tup xs) (y := .tup ys) hx hy]; unfold eqD; rfl
theorem oEq_loc {n : Nat} {y : D} (h : s[n]? = some (.lst xs)) (hx : datDs 63 xs = true) (hy : datD 64 y = true) : oEqG b (.loc n) y s = .ok (.bl (b != eqD (.lst xs) y)) s := by
  have e : oEqG b (.loc n) y s = oEqG b (.lst xs) y s := by
    unfold oEqG
    have e1 : scD (.loc n) y = none := by cases y <;> rfl
    have e2 : scD (.lst xs) y = none := by cases y <;> rfl
    have e3 : toPc s (.loc n) = toPc s (.lst xs) := by unfold toPc; simp [h]
    rw [e1, e2, e3]
  rw [e, oEq_dat (x := .lst xs) hx hy]
theorem ints_lay : ∀ ns : List Int, PyData.canLayAll0 (ns.map PyData.int) = true ∧ PyData.depthAll (ns.map PyData.int) = 0
  | [] => ⟨rfl, rfl⟩
  | n :: ns => by
    obtain ⟨h1, h2⟩ := ints_lay ns
    rw [List.map_cons]
    exact ⟨by unfold PyData.canLayAll0; rw [h1]; rfl, by unfold PyData.depthAll; rw [h2]; rfl⟩
/-- the script == [] -/
theorem oEq_scr0 {ns : List Int} : oEqG b (.scr ns) (.lst []) s = .ok (.bl (b != ns.isEmpty)) s := by
  unfold oEqG
  obtain ⟨h1, h2⟩ := ints_lay ns
  have e1 : toPc s (.scr ns) = some (.list (ns.map PyData.int)) := rfl
  have e2 : toPc s (.lst []) = some (.list []) := rfl
  have e3 : SeqAt.shaped (.list (ns.map PyData.int)) = true := shaped_of (by unfold PyData.canLay0; exact h1) (by unfold PyData.depth; rw [h2]; decide)
  have e4 : scD (.scr ns) (.lst []) = none := rfl
  rw [e4, e1, e2]
  dsimp only
  rw [e3, show SeqAt.shaped (.list []) = true from shaped_of rfl (by decide)]
  cases ns <;> rfl
@[simp] theorem datDs_nil {n : Nat} : datDs n [] = true := by cases n <;> rfl
@[simp] theorem datDs_cons {n : Nat} {x : D} : datDs n (x :: xs) = (datD n x && datDs n xs) := by cases n <;> rfl
@[simp] theorem datD_non {n : Nat} : datD n .non = true := by cases n <;> rfl
@[simp] theorem datD_bl {n : Nat} {c : Bool} : datD n (.bl c) = true := by cases n <;> rfl
@[simp] theorem datD_int {n : Nat} : datD n (.int a) = true := by cases n <;> rfl
@[simp] theorem datD_str {n : Nat} : datD n (.str z) = okS z := by cases n <;> rfl
@[simp] theorem datD_lst {n : Nat} : datD (n + 1) (.lst xs) = datDs n xs := rfl
@[simp] theorem datD_tup {n : Nat} : datD (n + 1) (.tup xs) = datDs n xs := rfl
@[simp] theorem eqDs_nil : eqDs [] [] = true := rfl
@[simp] theorem eqDs_cn {x : D} : eqDs (x :: xs) [] = false := rfl
@[simp] theorem eqDs_nc {x : D} : eqDs [] (x :: xs) = false := rfl
@[simp] theorem eqDs_cc {x y : D} : eqDs (x :: xs) (y :: ys) = (eqD x y && eqDs xs ys) := rfl
@[simp] theorem eqD_int {c : Int} : eqD (.int a) (.int c) = (a == c) := rfl
@[simp] theorem eqD_str {y : List Nat} : eqD (.str z) (.str y) = (z == y) := rfl
@[simp] theorem eqD_bl {c d : Bool} : eqD (.bl c) (.bl d) = (c == d) := rfl
@[simp] theorem eqD_ll : eqD (.lst xs) (.lst ys) = eqDs xs ys := by unfold eqD; rfl
@[simp] theorem eqD_tt : eqD (.tup xs) (.tup ys) = eqDs xs ys := by unfold eqD; rfl
@[simp] theorem eqD_il : eqD (.int a) (.lst ys) = false := rfl
@[simp] theorem eqD_sl : eqD (.str z) (.lst ys) = false := rfl
@[simp] theorem eqD_nl : eqD .non (.lst ys) = false := rfl
@[simp] theorem eqD_li : eqD (.lst xs) (.int a) = false := rfl
@[simp] theorem eqD_ls : eqD (.lst xs) (.str z) = false := rfl
@[simp] theorem eqD_it : eqD (.int a) (.tup ys) = false := rfl
@[simp] theorem eqD_st : eqD (.str z) (.tup ys) = false := rfl
@[simp] theorem eqD_ti : eqD (.tup xs) (.int a) = false := rfl
@[simp] theorem eqD_ts : eqD (.tup xs) (.str z) = false := rfl
@[simp] theorem eqD_lt : eqD (.lst xs) (.tup ys) = false := rfl
@[simp] theorem eqD_tl : eqD (.tup xs) (.lst ys) = false := rfl
end
/-! ## texts: where one sign stands -/
theorem sub1 {t : List Nat} {c i : Nat} : Builtin.Str.subAt (S t) (S [c]) i = decide (t[i]? = some c) := by
  unfold Builtin.Str.subAt
  have e : (S t).cps.extract i (i + (S [c]).length) = ((t.drop i).take 1).toArray := by
    rw [S_len]
    simp [S, List.extract_toArray, List.extract_eq_take_drop]
  rw [e]
  by_cases h : i < t.length
  · rw [List.drop_eq_getElem_cons h, List.take_succ_cons, List.take_zero, List.getElem?_eq_getElem h]
    by_cases h2 : t[i] = c <;> simp [h2, S]
  · rw [List.drop_eq_nil_of_le (by omega), List.getElem?_eq_none (by omega)]
    simp [S]
theorem at1 {t : List Nat} {c i : Nat} : StrLaws.At (S t) (S [c]) (S t).length i ↔ t[i]? = some c := by
  unfold StrLaws.At
  rw [sub1, S_len, S_len]
  constructor
  · rintro ⟨_, h⟩
    simpa using h
  · intro h
    have := (List.getElem?_eq_some_iff.mp h).1
    exact ⟨this, by simpa using h⟩
theorem occ1 {p q : List Nat} {c : Nat} (h : c ∉ p) : ∃ r, Builtin.Str.occurrences (S (p ++ c :: q)) (S [c]) 0 (S (p ++ c :: q)).length 1 = p.length :: r := by
  rcases StrLaws.occ_head (S (p ++ c :: q)) (S [c]) 1 (Nat.le_refl _) with ⟨_, hn⟩ | ⟨i, r, e, ha, hn⟩
  · exact absurd (at1.mpr (by simp)) (hn p.length)
  · refine ⟨r, ?_⟩
    rw [e]
    congr 1
    have h1 := at1.mp ha
    rcases Nat.lt_trichotomy i p.length with hl | he | hg
    · rw [List.getElem?_append_left hl] at h1
      exact absurd (List.mem_of_getElem? h1) h
    · exact he
    · exact absurd (at1.mpr (by simp)) (hn p.length hg)
theorem occ0 {p : List Nat} {c : Nat} (h : c ∉ p) : Builtin.Str.occurrences (S p) (S [c]) 0 (S p).length 1 = [] := by
  rcases StrLaws.occ_head (S p) (S [c]) 1 (Nat.le_refl _) with ⟨e, hn⟩ | ⟨i, r, e, ha, hn⟩
  · exact e
  · exact absurd (List.mem_of_getElem? (at1.mp ha)) h
theorem find1 {p q : List Nat} {c : Nat} (h : c ∉ p) : Txt.find (S (p ++ c :: q)) (S [c]) = p.length := by
  obtain ⟨r, e⟩ := occ1 (q := q) h
  unfold Txt.find
  rw [e]
theorem find0 {p : List Nat} {c : Nat} (h : c ∉ p) : Txt.find (S p) (S [c]) = -1 := by
  unfold Txt.find
  rw [occ0 h]
theorem starts1 {a c : Nat} {r : List Nat} : Txt.startswith (S (a :: r)) (S [c]) = (a == c) := by
  unfold Txt.startswith
  rw [sub1, S_len, S_len]
  by_cases h : a = c <;> simp [h]
theorem starts0 {c : Nat} : Txt.startswith (S []) (S [c]) = false := by
  unfold Txt.startswith
  rw [S_len, S_len]
  rfl
theorem sIx_nat {n d i : Nat} (h : i ≤ n) : HT.sIx n d (some (i : Int)) = i := by
  rw [HT.sIx_nat]; omega
theorem cutL_to {α : Type} {a b : List α} {i : Int} (h : i = (a.length : Int)) : cutL (a ++ b) none (some i) = a := by
  subst h
  unfold cutL
  rw [sIx_nat (by simp)]
  simp [HT.sIx]
theorem cutL_from {α : Type} {a b : List α} {i : Int} (h : i = (a.length : Int)) : cutL (a ++ b) (some i) none = b := by
  subst h
  unfold cutL
  rw [sIx_nat (by simp)]
  simp [HT.sIx]
end Mp
/-! # MpU -/
namespace Mp
open PySem PySem.Spec L2
/-! ## rows for objects, built-ins more -/
section
variable {δ : Env} {s : Sto}
@[simp] theorem obOf_obj {c : Nat} {ns : List Nat} {vs : List D} : obOf s (.obj c ns vs) = some (c, ns, vs) := rfl
@[simp] theorem obOf_loc {n : Nat} : obOf s (.loc n) = match s[n]? with
    | some (.obj c ns vs) => some (c, ns, vs)
    | _ => none := rfl
@[simp] theorem dFld_eq {cs : List Nat} {nF i : Nat} {f : DE} : dFld cs nF i f δ s = (f δ s).bind fun x s1 => match obOf s1 x with
  | some (c, ns, vs) => if (decide (c ∈ cs) && okN nF ns) = true then match lkF i ns vs with
    | some d => .ok d s1
    | none => .stuck
    else .stuck
  | none => .stuck := rfl
theorem dMeth_eq {nF : Nat} {tbl : List (Nat × (List D → Sto → Res D))} {f : DE} {fa : DA} : dMeth nF tbl f fa δ s = (f δ s).bind fun x s1 => match obOf s1 x with
  | some (c, ns, _) => if okN nF ns = true then match tbl.lookup c with
    | some φ => (fa δ s1).bind fun ds s2 => φ (x :: ds) s2
    | none => .stuck
    else .stuck
  | none => .stuck := rfl
@[simp] theorem sFldS_eq {cs : List Nat} {nF i : Nat} {fv fo : DE} : sFldS cs nF i fv fo δ s = (fv δ s).out δ fun d s1 => (fo δ s1).out δ fun o s2 => match o with
  | .loc n => match s2[n]? with
    | some (.obj c ns vs) => if (decide (c ∈ cs) && (okN nF ns && decide (ns.length < 1000))) = true then .nx δ (s2.set n (.obj c (putN i ns) (putD i d ns vs))) else .stuck
    | _ => .stuck
  | _ => .stuck := rfl
@[simp] theorem okN_nil {n : Nat} : okN n [] = true := rfl
@[simp] theorem okN_cons {n m : Nat} {ns : List Nat} : okN n (m :: ns) = (decide (m < n) && okN n ns) := rfl
@[simp] theorem lkF_cons {i n : Nat} {ns : List Nat} {v : D} {vs : List D} : lkF i (n :: ns) (v :: vs) = if n = i then some v else lkF i ns vs := rfl
@[simp] theorem lkF_nil {i : Nat} {vs : List D} : lkF i [] vs = none := by cases vs <;> rfl
@[simp] theorem putN_nil {i : Nat} : putN i [] = [i] := rfl
@[simp] theorem putN_cons {i n : Nat} {ns : List Nat} : putN i (n :: ns) = if n = i then n :: ns else n :: putN i ns := rfl
@[simp] theorem putD_nil {i : Nat} {d : D} : putD i d [] [] = [d] := rfl
@[simp] theorem putD_cons {i n : Nat} {ns : List Nat} {d v : D} {vs : List D} : putD i d (n :: ns) (v :: vs) = if n = i then d :: vs else v :: putD i d ns vs := rfl
@[simp] theorem lst_set {c d : Cell} : (s ++ [c]).set s.length d = s ++ [d] := by simp
@[simp] theorem lst_get {c : Cell} : (s ++ [c])[s.length]? = some c := by simp
theorem below_ints {n : Nat} : ∀ xs : List Int, belows n (xs.map D.int) = true
  | [] => rfl
  | x :: xs => by rw [List.map_cons]; unfold belows; rw [below_ints xs]; rfl
theorem below_strs {n : Nat} : ∀ xs : List (List Nat), belows n (xs.map D.str) = true
  | [] => rfl
  | x :: xs => by rw [List.map_cons]; unfold belows; rw [below_strs xs]; rfl
theorem mkOF_ok {c : Nat} {φ : List D → Sto → Res D} {ds : List D} {ns : List Nat} {vs : List D} (h : φ (.loc s.length :: ds) (s ++ [.obj c [] []]) = .ok .non (s ++ [.obj c ns vs])) (hs : s.all (Cell.below s.length) = true) (hv : belows s.length vs = true) : mkOF c φ ds s = .ok (.obj c ns vs) s := by
  unfold mkOF mkO
  rw [h]
  unfold frzO
  dsimp only
  rw [lst_get]
  dsimp only
  have e : (s ++ [Cell.obj c ns vs]).take s.length = s := by simp
  rw [if_pos (by rw [e]; simp only [Bool.and_eq_true, decide_eq_true_eq]; exact ⟨trivial, by simp, hv, hs⟩), e]
theorem mkOF_ex {c k : Nat} {φ : List D → Sto → Res D} {ds : List D} {cl : Cell} (h : φ (.loc s.length :: ds) (s ++ [.obj c [] []]) = .exc k (s ++ [cl])) (hs : s.all (Cell.below s.length) = true) : mkOF c φ ds s = .exc k s := by
  unfold mkOF mkO
  rw [h]
  show cutX s.length k (s ++ [cl]) = _
  unfold cutX
  have e : (s ++ [cl]).take s.length = s := by simp
  rw [if_neg (by simp), if_pos (by rw [e]; simp only [Bool.and_eq_true, decide_eq_true_eq]; exact ⟨by simp, hs⟩), e]
@[simp] theorem dFrz_eq {f : DE} : dFrz f δ s = frzL s.length (f δ s) := rfl
theorem frzL_ok {xs : List D} (hs : s.all (Cell.below s.length) = true) (hv : belows s.length xs = true) : frzL s.length (.ok (.loc s.length) (s ++ [.lst xs])) = .ok (.lst xs) s := by
  unfold frzL
  dsimp only
  rw [lst_get]
  dsimp only
  have e : (s ++ [Cell.lst xs]).take s.length = s := by simp
  rw [if_pos (by rw [e]; simp only [Bool.and_eq_true, decide_eq_true_eq]; exact ⟨trivial, by simp, hv, hs⟩), e]
@[simp] theorem oAddC_lst {a b : List D} : oAddC (.lst a) (.lst b) s = if a.length + b.length ≤ lim then .ok (.loc s.length) (s ++ [.lst (a ++ b)]) else .stuck := rfl
@[simp] theorem intsOf_nil : intsOf [] = some [] := rfl
@[simp] theorem intsOf_int {x : Int} {r : List D} : intsOf (.int x :: r) = (intsOf r).map (x :: ·) := rfl
theorem intsOf_map : ∀ xs : List Int, intsOf (xs.map D.int) = some xs
  | [] => rfl
  | x :: xs => by rw [List.map_cons, intsOf_int, intsOf_map xs]; rfl
@[simp] theorem bSum_lst {xs : List D} : bSum [.lst xs] s = match intsOf xs with
    | some ns => .ok (.int ns.sum) s
    | none => .stuck := rfl
@[simp] theorem bMaxL_lst {xs : List D} : bMaxL [.lst xs] s = match intsOf xs with
    | some ns => if ns ≠ [] then .ok (.int (maxI ns)) s else .stuck
    | none => .stuck := rfl
@[simp] theorem dMaxD_eq {fa fz : DA} : dMaxD fa fz δ s = (fa δ s).bind fun ds s1 => (fz δ s1).bind fun zs s2 => bMaxD ds zs s2 := rfl
@[simp] theorem bMaxD_lst {xs : List D} {d : Int} : bMaxD [.lst xs] [.int d] s = match intsOf xs with
    | some ns => .ok (.int (if ns = [] then d else maxI ns)) s
    | none => .stuck := rfl
@[simp] theorem bList_lst {xs : List D} : bList [.lst xs] s = .ok (.lst xs) s := rfl
@[simp] theorem bList_tup {xs : List D} : bList [.tup xs] s = .ok (.lst xs) s := rfl
@[simp] theorem bList_loc {n : Nat} : bList [.loc n] s = match s[n]? with
    | some (.lst xs) => .ok (.lst xs) s
    | _ => .stuck := by
  unfold bList
  simp only [lqOf_loc]
  cases s[n]? with
  | none => rfl
  | some c => cases c <;> rfl
@[simp] theorem dSortedSet_eq {f : DE} : dSortedSet f δ s = (f δ s).bind fun x s1 => match lqOf s1 x with
  | some xs => match intsOf xs with
    | some ns => if ns.length < 63 then .ok (.lst ((sortI ns).map D.int)) s1 else .stuck
    | none => .stuck
  | none => .stuck := rfl
@[simp] theorem dLcA_eq {f : DE} {t : DTg} {c : DT} {e : DE} {vs : List Nat} : dLcA f t c e vs δ s = (f δ s).bind fun x s1 => match itCel x s1 with
  | some (ds, s2, h) => backO h (lcL t c e (wipeE δ vs) ds [] s2)
  | none => .stuck := rfl
@[simp] theorem itCel_lst {xs : List D} : itCel (.lst xs) s = some (xs, s, none) := rfl
@[simp] theorem itCel_tup {xs : List D} : itCel (.tup xs) s = some (xs, s, none) := rfl
@[simp] theorem itCel_loc {n : Nat} : itCel (.loc n) s = match s[n]? with
    | some (.lst xs) => some (xs, s.set n .dead, some (n, xs))
    | _ => none := rfl
@[simp] theorem backO_none {r : Res D} : backO none r = r := rfl
@[simp] theorem backO_some {n : Nat} {xs : List D} {r : Res D} : backO (some (n, xs)) r = r.back n xs := rfl
@[simp] theorem dListR_eq {f : DE} : dListR f δ s = (f δ s).bind fun x s1 => match x with
  | .int n => if 0 ≤ n ∧ n ≤ 1000 then .ok (.lst (intsD 0 n.toNat)) s1 else .stuck
  | _ => .stuck := rfl
@[simp] theorem mClear_loc {n : Nat} : mClear (.loc n) [] s = match s[n]? with
    | some (.lst _) => .ok .non (s.set n (.lst []))
    | _ => .stuck := rfl
/-! ### isinstance -/
section
variable {parT par cs : List Nat}
theorem iso_cls {x : D} {c d : Nat} {ns : List Nat} {vs : List D} (hd : d ∈ cs) (hx : obOf s x = some (c, ns, vs)) (hc : c ∈ cs) (he : ∀ k, x ≠ .exc k) : bIsO parT par cs [x, .cls d] s = .ok (.bl (ancF par par.length c d)) s := by
  unfold bIsO
  split
  · rename_i k _ h
    cases h
    exact absurd rfl (he k)
  · rename_i h
    cases h
    rw [if_pos hd, hx]
    exact if_pos hc
  · rename_i h1 h2
    exact absurd rfl (h2 _ _)
theorem iso_no {x : D} {d : Nat} {t : String} (hd : d ∈ cs) (hx : obOf s x = none) (ht : tyOf s x = some t) (hk : t ∈ kiTy) : bIsO parT par cs [x, .cls d] s = .ok (.bl false) s := by
  unfold bIsO
  split
  · rename_i h
    cases h
    cases ht
  · rename_i h
    cases h
    rw [if_pos hd, hx]
    dsimp only
    rw [ht]
    exact if_pos hk
  · rename_i h1 h2
    exact absurd rfl (h2 _ _)
theorem iso_ty {x : D} {n t : String} {b : Bool} (ht : tyOf s x = some t) (hk : kitB t n = some b) : bIsO parT par cs [x, .ty n] s = .ok (.bl b) s := by
  unfold bIsO
  split
  · rename_i h
    cases h
    cases ht
  · rename_i h
    cases h
  · unfold bIsA
    split
    · rename_i h; cases h
    · rename_i h; cases h; cases ht
    · rename_i h
      cases h
      rw [ht]
      dsimp only
      rw [hk]
    · rename_i h1 h2 h3
      exact absurd rfl (h3 _ _)
theorem iso_x {k : Nat} {c : D} : bIsO parT par cs [.exc k, c] s = bIsA parT [.exc k, c] s := rfl
end
theorem kit_ii : kitB "int" "int" = some true := by decide +kernel
theorem kit_ib : kitB "int" "bool" = some false := by decide +kernel
theorem kit_bb : kitB "bool" "bool" = some true := by decide +kernel
theorem kit_bi : kitB "bool" "int" = some true := by decide +kernel
theorem kit_ll : kitB "list" "list" = some true := by decide +kernel
theorem kit_si : kitB "str" "int" = some false := by decide +kernel
theorem kit_ni : kitB "NoneType" "int" = some false := by decide +kernel
theorem kit_li : kitB "list" "int" = some false := by decide +kernel
theorem kit_ti : kitB "tuple" "int" = some false := by decide +kernel
theorem kit_di : kitB "dict" "int" = some false := by decide +kernel
theorem kit_tl : kitB "tuple" "list" = some false := by decide +kernel
theorem kit_nl : kitB "NoneType" "list" = some false := by decide +kernel
theorem kit_sl : kitB "str" "list" = some false := by decide +kernel
theorem kit_il : kitB "int" "list" = some false := by decide +kernel
theorem kit_bl : kitB "bool" "list" = some false := by decide +kernel
theorem kit_dl : kitB "dict" "list" = some false := by decide +kernel
theorem kit_ss : kitB "str" "str" = some true := by decide +kernel
theorem kit_ns : kitB "NoneType" "str" = some false := by decide +kernel
theorem kit_is : kitB "int" "str" = some false := by decide +kernel
theorem kit_bs : kitB "bool" "str" = some false := by decide +kernel
theorem kit_ls : kitB "list" "str" = some false := by decide +kernel
theorem kit_ts : kitB "tuple" "str" = some false := by decide +kernel
theorem kit_ds : kitB "dict" "str" = some false := by decide +kernel
@[simp] theorem tyOf_non : tyOf s .non = some "NoneType" := rfl
@[simp] theorem tyOf_bl {b : Bool} : tyOf s (.bl b) = some "bool" := rfl
@[simp] theorem tyOf_int {b : Int} : tyOf s (.int b) = some "int" := rfl
@[simp] theorem tyOf_str {b : List Nat} : tyOf s (.str b) = some "str" := rfl
@[simp] theorem tyOf_lst {b : List D} : tyOf s (.lst b) = some "list" := rfl
@[simp] theorem tyOf_tup {b : List D} : tyOf s (.tup b) = some "tuple" := rfl
@[simp] theorem tyOf_dct {ks b : List D} : tyOf s (.dct ks b) = some "dict" := rfl
/-! ### membership, menus -/
theorem any_int {x : Int} : ∀ xs : List Int, ((xs.map D.int).any fun y => eqF y (.int x)) = decide (x ∈ xs)
  | [] => by simp
  | y :: ys => by
    rw [List.map_cons, List.any_cons, any_int ys]
    show ((y == x) || _) = _
    by_cases h : y = x
    · simp [h]
    · have : ¬ x = y := fun z => h z.symm
      simp [h, this]
theorem flat_ints : ∀ xs : List Int, (xs.map D.int).all flatD = true
  | [] => rfl
  | x :: xs => by rw [List.map_cons, List.all_cons, flat_ints xs]; rfl
@[simp high] theorem oIn_ints {neg : Bool} {x : Int} {xs : List Int} : oInA neg (.int x) (.lst (xs.map D.int)) s = .ok (.bl (neg != decide (x ∈ xs))) s := by
  rw [oInA_lst, if_pos (by rw [flat_ints]; rfl), any_int]
theorem strsOf_map : ∀ xs : List (List Nat), strsOf (xs.map D.str) = some xs
  | [] => rfl
  | x :: xs => by
    show (strsOf (xs.map D.str)).map (x :: ·) = _
    rw [strsOf_map xs]; rfl
theorem un_S (x : List Nat) : un (S x) = x := by simp [un, S]
theorem mJoin_ok {a : List Nat} {ys : List (List Nat)} (h : (ys.map List.length).sum + ys.length * a.length ≤ lim) : mJoin (.str a) [.lst (ys.map D.str)] s = .ok (.str (TL.joinL a ys)) s := by
  unfold mJoin
  simp only [lqOf_lst, Option.some_or, strsOf_map]
  rw [if_pos h]
  have e : Txt.join (S a) (ys.map S) = S (TL.joinL a ys) := SX.join_S a ys
  rw [e, un_S]
theorem eqDs_self : ∀ ws : List (List Nat), eqDs (ws.map D.str) (ws.map D.str) = true
  | [] => rfl
  | w :: ws => by rw [List.map_cons, eqDs_cc, eqDs_self ws, eqD_str]; simp
theorem datDs_strs {n : Nat} : ∀ {ws : List (List Nat)}, (∀ w ∈ ws, okS w = true) → datDs n (ws.map D.str) = true
  | [], _ => by simp
  | w :: ws, h => by
    rw [List.map_cons, datDs_cons, datDs_strs fun v hv => h v (List.mem_cons_of_mem _ hv), datD_str, h w List.mem_cons_self]
    rfl
theorem datDs_ints {n : Nat} : ∀ xs : List Int, datDs n (xs.map D.int) = true
  | [] => by simp
  | x :: xs => by rw [List.map_cons, datDs_cons, datDs_ints xs, datD_int]; rfl
theorem eqDs_ints : ∀ xs ys : List Int, eqDs (xs.map D.int) (ys.map D.int) = (xs == ys)
  | [], [] => rfl
  | [], y :: ys => rfl
  | x :: xs, [] => rfl
  | x :: xs, y :: ys => by rw [List.map_cons, List.map_cons, eqDs_cc, eqDs_ints xs ys, eqD_int]; rfl
theorem bAll_true {xs : List D} (h : ∀ x ∈ xs, x = .bl true) : bAll [.lst xs] s = .ok (.bl true) s := by
  have e : boolsOf xs = some (xs.map fun _ => true) := by
    induction xs with
    | nil => rfl
    | cons x xs ih =>
      rw [h x List.mem_cons_self]
      show (boolsOf xs).map (true :: ·) = _
      rw [ih fun y hy => h y (List.mem_cons_of_mem _ hy)]
      rfl
  unfold bAll bAnyAll
  simp only [lqOf_lst, e]
  simp
end
end Mp
/-! # MpV -/
namespace PySem.SeqAt
open AutoSeq1 (wpAny_loadPart')
open MeetsSeq MeetsSeq2 MeetsSeq3 SeqRoads2
section
variable {prog : Program} {w : World}
theorem mp_list_neIn (l b : Addr) (items items2 : Array Value) (n n2 : Nat) (dd dd2 : Option Addr) (sl sl2 : Array (Option Value)) (hsz : items.size ≠ items2.size) :
    MeetsIn prog w (Builtin.«list.__eq__» ⟨[.ref l, .ref b], []⟩)
      (fun A R s => s.heap.get? l = some { cls := .type "list", dict := dd, data := .seq items n, slots := sl } ∧ s.heap.get? b = some { cls := .type "list", dict := dd2, data := .seq items2 n2, slots := sl2 } ∧
        R (.ok (.ret (.bool false))) s) := by
  intro A R s h
  obtain ⟨hp, g, d, tk, os⟩ := s; obtain ⟨hl, hb, h⟩ := h
  have f3 := AutoSeq1.sub_list_list
  have hne : (items.size != items2.size) = true := by simpa using hsz
  wp_walk using wpAny_loadPart' hl, wpAny_loadPart' hb
  exact h
theorem mp_rc_ne {A : Around} {s : Shared} {l b : Addr} {items items2 : Array Value} (hl : s.heap.IsList l items) (hb : s.heap.IsList b items2) (hsz : items.size ≠ items2.size) (hu : A.units < cLine)
    (E Q : Value → Shared → Prop) (h : Q (.bool false) s) : wpAny (model prog w) A (richCompare .Eq (.ref l) (.ref b)) Q E s := by
  obtain ⟨⟨cls, dd, data, sl⟩, ho, hc, n, hd⟩ := id hl
  obtain ⟨⟨cls2, dd2, data2, sl2⟩, ho2, hc2, n2, hd2⟩ := id hb
  simp only at hc hd hc2 hd2
  subst hc hd hc2 hd2
  have ta : s.TypeIs (.ref l) "list" := ⟨_, ho, rfl⟩
  have tb : s.TypeIs (.ref b) "list" := ⟨_, ho2, rfl⟩
  exact wpAny_richCompare_same_room (op := .Eq) ta tb F.slot_list_eq (call_meetsIn F.slot_list_eq ta F.entry_list_eq (F.args_list_eq_2 _ _) (mp_list_neIn l b items items2 n n2 dd dd2 sl sl2 hsz)
    ⟨ho, ho2, show Value.bool false ≠ Value.notImplemented ∧ Q (.bool false) s from ⟨(fun x => nomatch x), h⟩⟩) hu
theorem mp_dict_int (l : Addr) (o : Obj) (hc : o.cls = .type "dict") (b : Int) (u : Tok) :
    Meets (Builtin.«dict.__eq__» ⟨[.ref l, .int b u], []⟩) (fun _ R s => s.heap.get? l = some o ∧ R (.ok (.ret .notImplemented)) s) :=
  .of_wp fun prog w A R s h => by
    obtain ⟨hp, g, d, tk, os⟩ := s; obtain ⟨hl, h⟩ := h
    have f1 := F.sub_int_dict
    obtain ⟨oc, od, odt, osl⟩ := o
    simp only at hc
    subst hc
    wp_walk using wpAny_loadPart' hl
    exact ⟨_, rfl, h⟩
theorem mp_int_dict (l : Addr) (od : Option Addr) (es : Array DictEntry) (ep : Nat) (osl : Array (Option Value)) (b : Int) (u : Tok) :
    Meets (Builtin.«int.__eq__» ⟨[.int b u, .ref l], []⟩) (fun _ R s => s.heap.get? l = some ⟨.type "dict", od, .dict es ep, osl⟩ ∧ R (.ok (.ret .notImplemented)) s) :=
  .of_wp fun prog w A R s h => by
    obtain ⟨hp, g, d, tk, os⟩ := s; obtain ⟨hl, h⟩ := h
    wp_walk using wpAny_loadPart' hl, wpAny_load hl
    exact ⟨_, rfl, h⟩
theorem mp_eq_di {A : Around} {s : Shared} {l : Addr} {o : Obj} (b : Int) (u : Tok) {es : Array DictEntry} {ep : Nat} (ho : s.heap.get? l = some o) (hc : o.cls = .type "dict") (hd : o.data = .dict es ep) (hu : A.units < cLine) : EqAt A s (.ref l) (.int b u) false := fun prog w E Q h => by
  obtain ⟨oc, od, odt, osl⟩ := o
  simp only at hc hd
  subst hc hd
  unfold eqBool
  refine wpAny_holding ?_
  refine wpAny_ite_split (fun hab => absurd (eq_of_beq hab) nofun) (fun _ => ?_)
  refine wpAny_bind (rc_eq_decline_or (k := false) ⟨_, ho, rfl⟩ (typeIs_int s b u) (by decide) F.sub_int_dict F.slot_dict_eq F.slot_int_eq_refl
    (fun _ hq => call_meets F.slot_dict_eq ⟨_, ho, rfl⟩ F.entry_dict_eq (F.args_dict_eq_2 _ _) (mp_dict_int l _ rfl b u) ⟨ho, hq⟩)
    (fun _ hq => call_meets F.slot_int_eq_refl (typeIs_int s b u) F.entry_int_eq (F.args_int_eq_2 _ _) (mp_int_dict l od es ep osl b u) ⟨ho, hq⟩)
    (fun _ hq => wpAny_of_eq (rfl : isSame (.ref l) (.int b u) = pure false) hq) (.inr hu) (wpAny_truthy_bool h))
end
end PySem.SeqAt
namespace Mp
open PySem PySem.Spec PyProof.Rows L2
/-! ## == of lists, empty dicts and whole numbers among -/
/-- an item of the one list and its like of the other -/
def ElX (K : PySem.W.Frag) (H : Hp) (x y : V) (b : Bool) : Prop := (∃ i j, x = .int i ∧ y = .int j ∧ b = (i == j)) ∨ (∃ d kvs j, x = .ref d ∧ Rd H d (.dK kvs) ∧ y = .int j ∧ b = false)
inductive ElsX (K : PySem.W.Frag) (H : Hp) : List V → List V → List Bool → Prop
  | nil : ElsX K H [] [] []
  | cons {x y : V} {b : Bool} {xs ys : List V} {bs : List Bool} (h : ElX K H x y b) (r : ElsX K H xs ys bs) : ElsX K H (x :: xs) (y :: ys) (b :: bs)
def rEqX (K : PySem.W.Frag) (neg : Bool) : R2 := fun x y H Q => ∃ l b xs ys, x = .ref l ∧ y = .ref b ∧ SqL K H l xs ∧ SqL K H b ys ∧
  ((xs.length ≠ ys.length ∧ Q (.bl neg) H) ∨ ∃ bs, ElsX K H xs ys bs ∧ Q (.bl (neg != bs.all id)) H)
section
variable {X : Cx} {pins : List (Addr × Obj)} {σ : L2.St} {H : Hp} {s : Shared}
theorem ElsX.at {K : PySem.W.Frag} : ∀ {xs ys : List V} {bs : List Bool}, ElsX K H xs ys bs → ∀ j, j < xs.length → ∃ x y b, xs[j]? = some x ∧ ys[j]? = some y ∧ bs[j]? = some b ∧ ElX K H x y b
  | _, _, _, .nil, j, hj => by simp at hj
  | _, _, _, .cons h r, 0, _ => ⟨_, _, _, rfl, rfl, rfl, h⟩
  | _, _, _, .cons h r, j + 1, hj => by
    obtain ⟨x, y, b, h1, h2, h3, h4⟩ := r.at j (by simpa using hj)
    exact ⟨x, y, b, by simpa using h1, by simpa using h2, by simpa using h3, h4⟩
theorem ElsX.len {K : PySem.W.Frag} : ∀ {xs ys : List V} {bs : List Bool}, ElsX K H xs ys bs → xs.length = ys.length ∧ bs.length = xs.length
  | _, _, _, .nil => ⟨rfl, rfl⟩
  | _, _, _, .cons h r => by simp [r.len.1, r.len.2]
theorem all_range {bs : List Bool} : (List.range bs.length).all (fun j => bs.getD j true) = bs.all id := by
  rw [Bool.eq_iff_iff, List.all_eq_true, List.all_eq_true]
  constructor
  · intro h b hb
    obtain ⟨j, hj, e⟩ := List.getElem_of_mem hb
    have := h j (List.mem_range.mpr hj)
    rw [List.getD_eq_getElem?_getD, List.getElem?_eq_getElem hj, e] at this
    exact this
  · intro h j hj
    have hj' := List.mem_range.mp hj
    rw [List.getD_eq_getElem?_getD, List.getElem?_eq_getElem hj']
    exact h _ (List.getElem_mem hj')
theorem op_eqX (hu : X.A.units + 64 < cLine) : OpR X (compareOp .Eq) (rEqX X.K false) := by
  intro pins s σ H x y v u Q I rx ry h
  obtain ⟨l, b, xs, ys, rfl, rfl, hx, hy, h⟩ := h
  cases (show v = Value.ref l from rx)
  cases (show u = Value.ref b from ry)
  obtain ⟨its, r1, p1, z1⟩ := I.list hx
  obtain ⟨jts, r2, p2, z2⟩ := I.list hy
  show wpAny _ _ (richCompare .Eq (.ref l) (.ref b)) _ _ _
  rcases h with ⟨hne, q⟩ | ⟨bs, hE, q⟩
  · exact SeqAt.mp_rc_ne p1.isList p2.isList (by simp; rw [← r1.length, ← r2.length]; exact hne) (by omega) _ _ ⟨.bl false, H, I, rfl, q⟩
  · obtain ⟨e1, e2⟩ := hE.len
    refine SeqAt.rcP_lists (e := fun j => bs.getD j true) p1.isList p2.isList (by simp; rw [← r1.length, ← r2.length]; exact e1) (by omega) (fun j h1 h2 => ?_) _ _ ?_
    · have hj : j < xs.length := by rw [r1.length]; simpa using h1
      obtain ⟨a, c, k, q1, q2, q3, q4⟩ := hE.at j hj
      obtain ⟨v1, w1, rv1⟩ := r1.get q1
      obtain ⟨v2, w2, rv2⟩ := r2.get q2
      have f1 : its.toArray[j] = v1 := by
        rw [List.getElem?_eq_some_iff] at w1
        obtain ⟨_, w1⟩ := w1
        simpa using w1
      have f2 : jts.toArray[j] = v2 := by
        rw [List.getElem?_eq_some_iff] at w2
        obtain ⟨_, w2⟩ := w2
        simpa using w2
      rw [f1, f2]
      have f3 : bs.getD j true = k := by rw [List.getD_eq_getElem?_getD, q3]; rfl
      rw [f3]
      rcases q4 with ⟨i, i2, rfl, rfl, rfl⟩ | ⟨d, kvs, i2, rfl, hd, rfl, rfl⟩
      · obtain ⟨t, rfl⟩ := rv1
        obtain ⟨t2, rfl⟩ := rv2
        exact (SeqAt.EqAt.int_int i t i2 t2).eqP
      · cases (show v1 = Value.ref d from rv1)
        obtain ⟨t2, rfl⟩ := rv2
        obtain ⟨_, _, vs, _, o, es, ep, g1, g2, g3, _⟩ := dk_rd I.hok hd
        exact (SeqAt.mp_eq_di i2 t2 g1 g2.1 g3 (by show X.A.units + 1 < cLine; omega)).eqP
    · have e3 : its.toArray.size = bs.length := by simp; rw [← r1.length]; exact e2.symm
      rw [e3, all_range]
      exact ⟨.bl _, H, I, rfl, by simpa using q⟩
end
def elX : D → D → Option Bool
  | .int a, .int b => some (a == b)
  | .dct _ _, .int _ => some false
  | _, _ => none
def elsX : List D → List D → Option (List Bool)
  | [], [] => some []
  | x :: xs, y :: ys => match elX x y, elsX xs ys with
    | some b, some bs => some (b :: bs)
    | _, _ => none
  | _, _ => none
def oEqX : DOp := fun x y s => match lqOf s x, lqOf s y with
  | some xs, some ys => if xs.length ≠ ys.length then .ok (.bl false) s else match elsX xs ys with
    | some bs => .ok (.bl (bs.all id)) s
    | none => .stuck
  | _, _ => .stuck
def oEqB : DOp := fun x y s => match oEqG false x y s with
  | .stuck => oEqX x y s
  | r => r
def rEqB (K : PySem.W.Frag) : R2 := orR (rEqA K) (rEqX K false)
theorem op_eqB {X : Cx} (hu : X.A.units + 64 < cLine) : OpR X (compareOp .Eq) (rEqB X.K) := OpR.or (op_eqA hu) (op_eqX hu)
section
variable {T : Tb}
theorem elX_ok {P : Hp} {ι : List Addr} {F : Hp} {s : Sto} {H : Hp} (R : RelH T P ι F s H) {x y : D} {v u : V} {b : Bool} (rx : Rp T F ι x v) (ry : Rp T F ι y u) (h : elX x y = some b) : ElX T.K H v u b := by
  unfold elX at h
  split at h
  · cases h
    unfold Rp at rx ry
    exact .inl ⟨_, _, rx, ry, rfl⟩
  · cases h
    unfold Rp at rx ry
    obtain ⟨a, kvs, e, q, _⟩ := rx
    exact .inr ⟨a, kvs, _, e, rd_mono R.sub q, ry, rfl⟩
  · cases h
theorem elsX_ok {P : Hp} {ι : List Addr} {F : Hp} {s : Sto} {H : Hp} (R : RelH T P ι F s H) : ∀ {xs ys : List D} {vs us : List V} {bs : List Bool}, Rps T F ι xs vs → Rps T F ι ys us → elsX xs ys = some bs → ElsX T.K H vs us bs
  | [], [], vs, us, bs, rx, ry, h => by unfold Rps at rx ry; subst rx ry; cases h; exact .nil
  | [], y :: ys, vs, us, bs, rx, ry, h => by cases h
  | x :: xs, [], vs, us, bs, rx, ry, h => by cases h
  | x :: xs, y :: ys, vs, us, bs, rx, ry, h => by
    unfold Rps at rx ry
    obtain ⟨v, vs, rfl, x1, x2⟩ := rx
    obtain ⟨u, us, rfl, y1, y2⟩ := ry
    unfold elsX at h
    split at h
    · rename_i b bs' h1 h2
      cases h
      exact .cons (elX_ok R x1 y1 h1) (elsX_ok R x2 y2 h2)
    · cases h
theorem do_eqB : DenOp T (rEqB T.K) oEqB := by
  intro x y dx dy H P ι F s Q E R rx ry post
  unfold oEqB at post
  cases e : oEqG false dx dy s with
  | ok d s1 => rw [e] at post; exact .inl (do_eq x y dx dy H P ι F s Q E R rx ry (by show Post T P (Rp T) Q E F ι (oEqG false dx dy s); rw [e]; exact post))
  | exc k s1 => rw [e] at post; exact .inl (do_eq x y dx dy H P ι F s Q E R rx ry (by show Post T P (Rp T) Q E F ι (oEqG false dx dy s); rw [e]; exact post))
  | stuck =>
    rw [e] at post
    have post1 : Post T P (Rp T) Q E F ι (match lqOf s dx, lqOf s dy with
      | some xs, some ys => if xs.length ≠ ys.length then .ok (.bl false) s else match elsX xs ys with
        | some bs => .ok (.bl (bs.all id)) s
        | none => .stuck
      | _, _ => .stuck) := post
    refine .inr ?_
    split at post1
    · rename_i xs ys h1 h2
      obtain ⟨a, vs, rfl, q1, r1⟩ := lq_of R rx h1
      obtain ⟨b, us, rfl, q2, r2⟩ := lq_of R ry h2
      split at post1
      · rename_i hne
        exact ⟨a, b, vs, us, rfl, rfl, q1, q2, .inl ⟨by rw [← r1.len, ← r2.len]; exact hne, post1.here R (by unfold Rp; rfl)⟩⟩
      · split at post1
        · rename_i bs hb
          refine ⟨a, b, vs, us, rfl, rfl, q1, q2, .inr ⟨bs, elsX_ok R r1 r2 hb, ?_⟩⟩
          simp only [Bool.false_bne]
          exact post1.here R (by unfold Rp; rfl)
        · exact post1.elim
    · exact post1.elim
end
end Mp
/-! # MpW -/
namespace Mp
open PySem PySem.Spec PyProof.Rows L2
/-! ## defs with defaults -/
section
variable {T : Tb} {P : Program} {w : World} {mg : Str → Option Value} {base : Heap}
/-- a def that may be called without its last arguments -/
structure Cld (T : Tb) (P : Program) (w : World) (mg : Str → Option Value) (base : Heap) (x : Str) (k n : Nat) (φ : List D → Sto → Res D) (dd : List D) : Prop where
  ex : ∃ (f : Addr) (fd : FuncData) (ps : List Str) (ds : List Value) (dvs : List V), mg x = some (.ref f) ∧ PySem.W.keepIn T.K (.ref f) = true ∧ Binds T.K fd ps ds ∧ Vals dvs ds ∧ (∀ F ι, Rps T F ι dd dvs) ∧ FnOk P w T.K mg base (L2.CX P w) k f fd ps (spD T n φ)
theorem dfl_all {x qual : Str} {params : Arguments} {body : List Stmt} {scope : Scope} {dvs : List V} {kws : List (Str × V)} {f : Addr} {fd : FuncData} {ps : List Str} {K : PySem.W.Frag} (F : FunD K x qual params body scope dvs kws f fd) (hd : dvs ≠ [])
    (h : ∀ (T : Addr) (kV doc pm : Value) (an : Option Addr) (cdv ct : Value) (us its : List Value), us.length = ps.length → its.length = dvs.length →
      ∃ k, bindArgs (PySem.W.fnOf x qual params body scope (.ref T) kV doc pm an cdv ct) ⟨us, []⟩ = seqItems? (.ref T) >>= k ∧ k (some its.toArray) = pure (ps.zip (us ++ its.drop dvs.length))) : Binds K fd ps [] := by
  obtain ⟨ds, h1, h2⟩ := FunD.binds1 (ps := ps) F ps.length dvs.length hd (by omega) h
  rw [List.drop_length] at h1
  cases h1
  exact h2
variable {X : Cx}
theorem d_callD {x : Str} {p pos : Pos} {e : Expr} {es : List Expr} {k j n : Nat} {φ : List D → Sto → Res D} {fa : DA} {dd : List D} (c : Cld T X.prog X.w X.mg X.base x k n φ dd) (ha : PDa T X (e :: es) fa) (hr : Room j X.A) (hk : k ≤ j := by decide) (hn : (e :: es).length + dd.length = n := by rfl) (hg : Gl X x := by rfl) (hK : X.K = T.K := by rfl)
    (hdb : (x == ("__debug__" : Str)) = false := by decide) (he : starEach (e :: es) X.env = (false, eval e X.env) :: starEach es X.env := by rfl) (hpl : (backTo pos (starEach es X.env)).any (·.1) = false := by rfl) :
    PDe T X (.Call (.Name x p) (e :: es) [] pos) (dCall (fun ds s => φ (ds ++ dd) s) fa) := fun pn xe W tk => by
  obtain ⟨t1, p1, d1⟩ := ha pn xe W tk
  obtain ⟨f, fd, ps, ds0, dvs, h1, h2, h3, h4, h5, h6⟩ := c.ex
  rw [← hK] at h2 h3 h6
  refine ⟨_, pe_callSD (X := X.tr pn xe) h6 (hr.mono hk) hg h1 h2 h3 h4 (fun σ => passAt tk σ) p1 hdb he hpl, fun σ H P ι F δ s Q R E post => ?_⟩
  show t1 σ H _
  refine den_then d1 R E post fun ds vs H1 ι1 F1 s1 g R1 E1 r1 post1 => ?_
  have r5 := h5 F1 ι1
  exact ⟨by rw [List.length_append, r1.2, ← r5.len]; exact hn, P, ι1, F1, s1, ds ++ dd, R1, r1.1.app r5, post1⟩
end
end Mp
/-! # MpX -/
namespace Mp
open PySem PySem.Spec PyProof.Rows L2
/-! ## dicts: values that stay, and cells -/
def dcOf (s : Sto) : D → Option (List D × List D)
  | .dct ks xs => some (ks, xs)
  | .loc n => match s[n]? with
    | some (.dct ks xs) => some (ks, xs)
    | _ => none
  | _ => none
def eqK : D → D → Bool
  | .int a, .int b => a == b
  | .str a, .str b => a == b
  | _, _ => false
def keyD : D → Option Key
  | .int a => some (.inl a)
  | .str z => some (.inr (S z))
  | _ => none
/-- what stands at the key -/
def lkD (k : D) : List D → List D → Option D
  | c :: ks, x :: xs => if eqK c k = true then some x else lkD k ks xs
  | _, _ => none
/-- .. in its place, or at the end -/
def repD (k x : D) : List D → List D → List D
  | c :: ks, y :: ys => (if eqK c k = true then x else y) :: repD k x ks ys
  | _, _ => []
def setD (k x : D) (ks xs : List D) : List D := if (ks.any fun c => eqK c k) = true then repD k x ks xs else xs ++ [x]
def setK (k : D) (ks : List D) : List D := if (ks.any fun c => eqK c k) = true then ks else ks ++ [k]
section
variable {T : Tb}
theorem dc_of {P : Hp} {ι : List Addr} {F : Hp} {s : Sto} {H : Hp} {d : D} {v : V} {ks xs : List D} (R : RelH T P ι F s H) (r : Rp T F ι d v) (h : dcOf s d = some (ks, xs)) :
    ∃ a kvs, v = .ref a ∧ Rd H a (.dK kvs) ∧ ks = kvs.map (fun p => kD p.1) ∧ Rps T F ι xs (kvs.map (·.2)) := by
  unfold dcOf at h
  split at h
  · cases h
    unfold Rp at r
    obtain ⟨a, kvs, e, q, k, r⟩ := r
    exact ⟨a, kvs, e, rd_mono R.sub q, k, r⟩
  · unfold Rp at r
    obtain ⟨a, e1, rfl⟩ := r
    split at h
    · rename_i hs
      cases h
      obtain ⟨_, kvs, h1, h2, h3⟩ := R.cell _ _ _ hs e1
      exact ⟨a, kvs, rfl, .inl h1, h2, h3⟩
    · cases h
  · cases h
theorem key_of' {F : Hp} {ι : List Addr} {d : D} {v : V} {k : Key} (r : Rp T F ι d v) (h : keyD d = some k) : v = kV k := by
  unfold keyD at h
  split at h
  · cases h; unfold Rp at r; exact r
  · cases h; unfold Rp at r; exact r
  · cases h
theorem eqK_kD {k j : Key} {d : D} (h : keyD d = some k) : eqK (kD j) d = decide (j = k) := by
  unfold keyD at h
  split at h
  · cases h
    cases j with
    | inl b =>
      rename_i a
      show (b == a) = _
      by_cases e : b = a
      · simp [e]
      · simp [e]
    | inr x => simp [kD, eqK]
  · cases h
    rename_i z
    cases j with
    | inl b => simp [kD, eqK]
    | inr x =>
      show (x.cps.toList == z) = _
      by_cases e : x = S z
      · subst e
        simp [S]
      · have : ¬ x.cps.toList = z := fun q => e (by
          subst q
          cases x
          rfl)
        simp [e, this]
  · cases h
theorem lk_valV {k : Key} {d : D} (hk : keyD d = some k) {F : Hp} {ι : List Addr} : ∀ {kvs : List (Key × V)} {xs : List D}, Rps T F ι xs (kvs.map (·.2)) → (∃ x v, lkD d (kvs.map fun p => kD p.1) xs = some x ∧ valV kvs k = some v ∧ Rp T F ι x v) ∨ (lkD d (kvs.map fun p => kD p.1) xs = none ∧ valV kvs k = none)
  | [], xs, r => by
    right
    constructor
    · rfl
    · rfl
  | p :: kvs, xs, r => by
    rw [List.map_cons] at r
    cases xs with
    | nil => unfold Rps at r; cases r
    | cons x xs =>
      unfold Rps at r
      obtain ⟨v, us, e, r1, r2⟩ := r
      injection e with e1 e2
      subst e1 e2
      rw [List.map_cons]
      unfold lkD
      rw [eqK_kD hk]
      by_cases c : p.1 = k
      · rw [if_pos (by simpa using c), valV_pos c]
        exact .inl ⟨x, p.2, rfl, rfl, r1⟩
      · rw [if_neg (by simpa using c), valV_neg c]
        exact lk_valV hk r2
theorem kD_of {k : Key} {d : D} (hk : keyD d = some k) : d = kD k := by
  unfold keyD at hk
  split at hk
  · cases hk; rfl
  · cases hk; simp [kD, S]
  · cases hk
theorem rep_valV {k : Key} {d x : D} {u : V} (hk : keyD d = some k) {F : Hp} {ι : List Addr} (hu : Rp T F ι x u) : ∀ {kvs : List (Key × V)} {xs : List D}, Rps T F ι xs (kvs.map (·.2)) →
    Rps T F ι (repD d x (kvs.map fun p => kD p.1) xs) ((kvs.map fun kv => if kv.1 = k then (kv.1, u) else kv).map (·.2))
  | [], xs, r => by unfold repD; exact .nil
  | p :: kvs, xs, r => by
    rw [List.map_cons] at r
    cases xs with
    | nil => unfold Rps at r; cases r
    | cons y xs =>
      unfold Rps at r
      obtain ⟨v, us, e, r1, r2⟩ := r
      injection e with e1 e2
      subst e1 e2
      rw [List.map_cons, List.map_cons, List.map_cons]
      unfold repD
      rw [eqK_kD hk]
      have ih := rep_valV hk hu r2
      by_cases c : p.1 = k
      · rw [if_pos (by simpa using c), if_pos c]
        exact .cons hu ih
      · rw [if_neg (by simpa using c), if_neg c]
        exact .cons r1 ih
theorem put_valV {k : Key} {d x : D} {u : V} (hk : keyD d = some k) {F : Hp} {ι : List Addr} (hu : Rp T F ι x u) {kvs : List (Key × V)} {xs : List D} (r : Rps T F ι xs (kvs.map (·.2))) :
    setK d (kvs.map fun p => kD p.1) = (putK kvs k u).map (fun p => kD p.1) ∧ Rps T F ι (setD d x (kvs.map fun p => kD p.1) xs) ((putK kvs k u).map (·.2)) := by
  have q : ((kvs.map fun p => kD p.1).any fun c => eqK c d) = kvs.any fun kv => decide (kv.1 = k) := by
    rw [List.any_map]
    congr 1
    funext p
    exact eqK_kD hk
  unfold setK setD putK
  rw [q]
  split
  · refine ⟨?_, rep_valV hk hu r⟩
    rw [List.map_map]
    refine List.map_congr_left fun p _ => ?_
    simp only [Function.comp]
    split <;> rfl
  · refine ⟨by rw [List.map_append, kD_of hk]; rfl, ?_⟩
    rw [List.map_append]
    exact r.app (.cons hu .nil)
/-! ### d[k], k in d, d[k] = v, len(d), list(d), {} -/
def oDix : DOp := fun x y s => match dcOf s x, keyD y with
  | some (ks, xs), some _ => match lkD y ks xs with
    | some d => .ok d s
    | none => .stuck
  | _, _ => .stuck
def dDix (f g : DE) : DE := fun δ s => (f δ s).bind fun x s1 => (g δ s1).bind fun y s2 => oDix x y s2
def dDin (neg : Bool) (g f : DE) : DE := fun δ s => (g δ s).bind fun y s1 => (f δ s1).bind fun x s2 => match dcOf s2 x, keyD y with
  | some (ks, xs), some _ => .ok (.bl (neg != (lkD y ks xs).isSome)) s2
  | _, _ => .stuck
variable {X : Cx}
theorem d_dix {o i : Expr} {pos : Pos} {f g : DE} (ho : PDe T X o f) (hi : PDe T X i g) (hu : X.A.units + 1 < cLine) (hs : NoSl i := by intro _ _; rfl) : PDe T X (.Subscript o i pos) (dDix f g) := fun pn xe W tk => by
  obtain ⟨t1, p1, d1⟩ := ho pn xe W tk
  obtain ⟨t2, p2, d2⟩ := hi pn xe W tk
  refine ⟨_, pe_dget (X := X.tr pn xe) hu p1 p2 hs, fun σ H P ι F δ s Q R E post => ?_⟩
  show t1 σ H _
  refine den_then d1 R E post fun x v H1 ι1 F1 s1 g1 R1 E1 r1 post1 => ?_
  refine den_then d2 R1 E1 post1 fun y u H2 ι2 F2 s2 g2 R2 E2 r2 post2 => ?_
  unfold oDix at post2
  split at post2
  · rename_i ks xs k h1 h2
    obtain ⟨a, kvs, rfl, h3, h4, h5⟩ := dc_of R2 (r1.mono g2) h1
    subst h4
    rcases lk_valV h2 h5 with ⟨x', v', e1, e2, e3⟩ | ⟨e1, e2⟩
    · rw [e1] at post2
      exact ⟨a, v', rfl, .inl ⟨kvs, k, h3, key_of' r2 h2, e2.symm⟩, post2.here R2 e3⟩
    · rw [e1] at post2
      exact post2.elim
  · exact post2.elim
theorem den_din {W : WX} {neg : Bool} {t1 t2 : TE} {f g : DE} (d2 : DenG T (Rp T) W t2 g) (d1 : DenG T (Rp T) W t1 f) {σ : L2.St} {H P : Hp} {ι : List Addr} {F : Hp} {δ : Env} {s : Sto} {Q : VK} (R : RelH T P ι F s H) (E : REnv T F ι δ σ)
    (post : Post T P (Rp T) Q (fun c H' => W (.ref (T.ca c)) none σ H') F ι (dDin neg g f δ s)) : t2 σ H fun y H1 => t1 σ H1 fun x H2 => ∃ a o, x = .ref a ∧ DGet H2 a y o ∧ Q (.bl (neg != o.isSome)) H2 := by
  refine den_then d2 R E post fun y u H1 ι1 F1 s1 g1 R1 E1 r1 post1 => ?_
  refine den_then d1 R1 E1 post1 fun x v H2 ι2 F2 s2 g2 R2 E2 r2 post2 => ?_
  split at post2
  · rename_i ks xs k h1 h2
    obtain ⟨a, kvs, rfl, h3, h4, h5⟩ := dc_of R2 r2 h1
    subst h4
    rcases lk_valV h2 h5 with ⟨x', v', e1, e2, e3⟩ | ⟨e1, e2⟩
    · rw [e1] at post2
      exact ⟨a, some v', rfl, .inl ⟨kvs, k, h3, key_of' (r1.mono g2) h2, e2.symm⟩, post2.here R2 (by unfold Rp; rfl)⟩
    · rw [e1] at post2
      exact ⟨a, none, rfl, .inl ⟨kvs, k, h3, key_of' (r1.mono g2) h2, e2.symm⟩, post2.here R2 (by unfold Rp; rfl)⟩
  · exact post2.elim
theorem d_din {o i : Expr} {pos : Pos} {f g : DE} (hi : PDe T X i g) (ho : PDe T X o f) (hu : X.A.units + 1 < cLine) (hm : behindInMarks .In o = false := by rfl) : PDe T X (.Compare i [.In] [o] pos) (dDin false g f) := fun pn xe W tk => by
  obtain ⟨t1, p1, d1⟩ := ho pn xe W tk
  obtain ⟨t2, p2, d2⟩ := hi pn xe W tk
  refine ⟨_, pe_cmp (pc_din (X := X.tr pn xe) hu p2 p1) hm, fun σ H P ι F δ s Q R E post => ?_⟩
  have := den_din (neg := false) d2 d1 R E post
  simp only [Bool.false_bne] at this
  exact this
theorem d_dnotin {o i : Expr} {pos : Pos} {f g : DE} (hi : PDe T X i g) (ho : PDe T X o f) (hu : X.A.units + 1 < cLine) (hm : behindInMarks .NotIn o = false := by rfl) : PDe T X (.Compare i [.NotIn] [o] pos) (dDin true g f) := fun pn xe W tk => by
  obtain ⟨t1, p1, d1⟩ := ho pn xe W tk
  obtain ⟨t2, p2, d2⟩ := hi pn xe W tk
  refine ⟨_, pe_cmp (pc_dnotin (X := X.tr pn xe) hu p2 p1) hm, fun σ H P ι F δ s Q R E post => ?_⟩
  have := den_din (neg := true) d2 d1 R E post
  simp only [Bool.true_bne] at this
  exact this
/-- .. as a test -/
theorem t_din {o i : Expr} {pos : Pos} {f g : DE} (hi : PDe T X i g) (ho : PDe T X o f) (hu : X.A.units + 1 < cLine) (hm : behindInMarks .In o = false := by rfl) : PDt T X (.Compare i [.In] [o] pos) (tst (dDin false g f)) := fun pn xe W tk => by
  obtain ⟨t, p, d⟩ := d_din (pos := pos) hi ho hu hm pn xe W tk
  obtain ⟨t1, p1, d1⟩ := ho pn xe W tk
  obtain ⟨t2, p2, d2⟩ := hi pn xe W tk
  refine ⟨_, pt_cmp (pc_din (X := X.tr pn xe) hu p2 p1) hm, fun σ H P ι F δ s Q R E post => ?_⟩
  refine den_tst (t := tDIn t2 t1) (f := dDin false g f) (fun σ H P ι F δ s Q R E post => ?_) σ H P ι F δ s Q R E post
  have := den_din (neg := false) d2 d1 R E post
  simp only [Bool.false_bne] at this
  exact this
theorem t_dnotin {o i : Expr} {pos : Pos} {f g : DE} (hi : PDe T X i g) (ho : PDe T X o f) (hu : X.A.units + 1 < cLine) (hm : behindInMarks .NotIn o = false := by rfl) : PDt T X (.Compare i [.NotIn] [o] pos) (tst (dDin true g f)) := fun pn xe W tk => by
  obtain ⟨t1, p1, d1⟩ := ho pn xe W tk
  obtain ⟨t2, p2, d2⟩ := hi pn xe W tk
  refine ⟨_, pt_cmp (pc_dnotin (X := X.tr pn xe) hu p2 p1) hm, fun σ H P ι F δ s Q R E post => ?_⟩
  refine den_tst (t := tDNotIn t2 t1) (f := dDin true g f) (fun σ H P ι F δ s Q R E post => ?_) σ H P ι F δ s Q R E post
  have := den_din (neg := true) d2 d1 R E post
  simp only [Bool.true_bne] at this
  exact this
/-- d[k] = v, d a cell -/
def sDput (fv fo fi : DE) : DS := fun δ s => (fv δ s).out δ fun d s1 => (fo δ s1).out δ fun o s2 => (fi δ s2).out δ fun i s3 => match o, keyD i with
  | .loc n, some _ => match s3[n]? with
    | some (.dct ks xs) => if ks.length < 1000 then .nx δ (s3.set n (.dct (setK i ks) (setD i d ks xs))) else .stuck
    | _ => .stuck
  | _, _ => .stuck
theorem s_dput {o i e : Expr} {tpos pos : Pos} {fv fo fi : DE} (he : PDe T X e fv) (ho : PDe T X o fo) (hi : PDe T X i fi) (hu : X.A.units + 1 < cLine) (hs : swapsWith e (some (.Subscript o i tpos)) pos.line X.env = pure false := by rfl) :
    PDs T X (.Assign [.Subscript o i tpos] e pos) (sDput fv fo fi) := fun pn xe W tk _ => by
  obtain ⟨t1, p1, d1⟩ := he pn xe W tk
  obtain ⟨t2, p2, d2⟩ := ho pn xe W tk
  obtain ⟨t3, p3, d3⟩ := hi pn xe W tk
  refine ⟨_, ps_dput (X := X.tr pn xe) hu p2 p3 p1 hs, fun En σ H P ι F δ s R E post => ?_⟩
  show t1 σ H _
  refine dens_then d1 R E post fun x v H1 ι1 F1 s1 g1 R1 E1 r1 post1 => ?_
  refine dens_then d2 R1 E1 post1 fun y u H2 ι2 F2 s2 g2 R2 E2 r2 post2 => ?_
  refine dens_then d3 R2 E2 post2 fun z w H3 ι3 F3 s3 g3 R3 E3 r3 post3 => ?_
  split at post3
  · rename_i n k h2
    split at post3
    · rename_i ks xs hs3
      split at post3
      · rename_i hl
        have r2' := r2.mono g3
        unfold Rp at r2'
        obtain ⟨a, e1, rfl⟩ := r2'
        obtain ⟨h4, kvs, h5, h6, h7⟩ := R3.cell _ _ _ hs3 e1
        subst h6
        rw [List.length_map] at hl
        obtain ⟨q1, q2⟩ := put_valV h2 (r1.mono (g2.trans g3)) h7
        refine ⟨a, _, rfl, .inl ⟨kvs, k, h5, key_of' r3 h2, by rw [sizeLine_eq]; omega, rfl⟩, ?_⟩
        exact post3 σ _ ι3 F3 (Grow.refl _ _) (R3.setC hs3 rfl e1 ⟨h4, _, upd_same, q1, q2⟩) E3
      · exact post3.elim
    · exact post3.elim
  · exact post3.elim
/-- {}, a cell -/
def dDctC : DE := fun _ s => .ok (.loc s.length) (s ++ [.dct [] []])
theorem d_dctC {pos : Pos} : PDe T X (.Dict [] [] pos) dDctC := fun pn xe W tk => ⟨_, pe_dnewK, fun σ H P ι F δ s Q R E post p hp => post_loc post R hp ⟨R.freeF hp, [], upd_same, rfl, .nil⟩⟩
def rLenD : List V → Hp → VK → Prop := fun xs H Q => ∃ a kvs, xs = [V.ref a] ∧ Rd H a (.dK kvs) ∧ Q (.int kvs.length) H
theorem call_lenD : CallR X (.builtin "len") rLenD := by
  intro pins s σ H xs us Q I r h
  obtain ⟨a, kvs, rfl, e, q⟩ := h
  rw [Vals.ref1 r]
  exact d_len I e fun t s' I' => ⟨.int kvs.length, H, I', ⟨t, rfl⟩, q⟩
def bLenA : DB := fun ds s => match ds with
  | [x] => match dcOf s x with
    | some (ks, _) => .ok (.int ks.length) s
    | none => bLen [x] s
  | _ => .stuck
theorem db_lenA : DenB T (fun xs H Q => rLen T.K xs H Q ∨ rLenD xs H Q) bLenA := by
  intro ds vs H P ι F s Q E R r post
  unfold bLenA at post
  split at post
  · obtain ⟨v, rfl, h1⟩ := rps1 r
    split at post
    · rename_i ks xs h
      obtain ⟨a, kvs, rfl, h3, h4, h5⟩ := dc_of R h1 h
      refine .inr ⟨a, kvs, rfl, h3, ?_⟩
      subst h4
      rw [List.length_map] at post
      exact post.here R (by unfold Rp; rfl)
    · exact .inl (db_len _ _ _ _ _ _ _ _ _ R r post)
  · exact post.elim
theorem call_lenA : CallR X (.builtin "len") (fun xs H Q => rLen X.K xs H Q ∨ rLenD xs H Q) := CallR.or call_len call_lenD
def bListA : DB := fun ds s => match ds with
  | [x] => match dcOf s x with
    | some (ks, _) => .ok (.lst ks) s
    | none => bList [x] s
  | _ => .stuck
abbrev rListD : List V → Hp → VK → Prop := fun xs H Q => ∃ (a : Addr) (kvs : List (Key × V)), xs = [.ref a] ∧ Rd H a (.dK kvs) ∧ ∀ p, H p = none → Q (.ref p) (upd H p (.lst (kvs.map fun kv => kV kv.1)))
theorem rps_keys {F : Hp} {ι : List Addr} : ∀ kvs : List (Key × V), Rps T F ι (kvs.map fun p => kD p.1) (kvs.map fun p => kV p.1)
  | [] => .nil
  | p :: kvs => by
    rw [List.map_cons, List.map_cons]
    refine .cons ?_ (rps_keys kvs)
    cases p.1 with
    | inl i => unfold kD Rp; rfl
    | inr x =>
      unfold kD Rp
      show V.str x = _
      congr 1
theorem db_listA : DenB T (fun xs H Q => rListOf T.K xs H Q ∨ rListD xs H Q) bListA := by
  intro ds vs H P ι F s Q E R r post
  unfold bListA at post
  split at post
  · obtain ⟨v, rfl, h1⟩ := rps1 r
    split at post
    · rename_i ks xs h
      obtain ⟨a, kvs, rfl, h3, h4, h5⟩ := dc_of R h1 h
      refine .inr ⟨a, kvs, rfl, h3, fun p hp => post.new R hp fun g => ?_⟩
      unfold Rp
      subst h4
      exact ⟨p, _, rfl, upd_same, rps_keys kvs⟩
    · exact .inl (db_list _ _ _ _ _ _ _ _ _ R r post)
  · exact post.elim
theorem call_listA (hc : X.calm = true) : CallR X (.type "list") (fun xs H Q => rListOf X.K xs H Q ∨ rListD xs H Q) := CallR.or call_list_of (call_listD hc)
end
end Mp
/-! # MpY -/
namespace Mp
open PySem PySem.Spec PyProof.Rows L2
theorem hu_of {n : Nat} (h : n + 64 < cLine) : n + 1 < cLine := by omega
section
variable {T : Tb} {X : Cx}
/-! ## x += e, whole numbers -/
def sAug (i : Nat) (g : Int → Int → Int) (f : DE) : DS := fun δ s => match δ[i]? with
  | some (some (.int a)) => (f δ s).out δ fun x s1 => match x with
    | .int b => .nx (δ.set i (some (.int (g a b)))) s1
    | _ => .stuck
  | _ => .stuck
theorem s_augAdd {x : Str} {e : Expr} {pos pos' : Pos} {f : DE} (i : Nat) (hN : X.N.Nodup) (he : PDe T X e f) (hi : X.N[i]? = some x := by rfl) (hx : Loc X.env.scope x := by first | exact Or.inl rfl | exact Or.inr rfl)
    (hf : X.fn x = true ∨ X.env.scope.names.lookup x = some .local := by first | exact Or.inr rfl | exact Or.inl rfl) : PDs T X (.AugAssign (.Name x pos') .Add e pos) (sAug i (fun a b => a + b) f) := fun pn xe W tk _ => by
  obtain ⟨t1, p1, d1⟩ := he pn xe W tk
  refine ⟨_, ps_aug (X := X.tr pn xe) (i := i) hN hi hx p1 ip_add hf, fun En σ H P ι F δ s R E post => ?_⟩
  unfold sAug at post
  split at post
  · rename_i a ha
    obtain ⟨v, e1, e2⟩ := E.at_ i _ ha
    unfold Rp at e2
    subst e2
    refine ⟨_, e1, ?_⟩
    refine dens_then d1 R E post fun y u H1 ι1 F1 s1 g1 R1 E1 r1 post1 => ?_
    split at post1
    · unfold Rp at r1
      refine ⟨_, _, rfl, r1, ?_⟩
      exact post1 _ H1 ι1 F1 (Grow.refl _ _) R1 (E1.set (by unfold Rp; rfl) i)
    · exact post1.elim
  · exact post.elim
/-! ## xs[::-1] -/
def dRev (f : DE) : DE := fun δ s => (f δ s).bind fun x s1 => match lqOf s1 x with
  | some xs => .ok (.lst xs.reverse) s1
  | none => .stuck
theorem d_rev {e : Expr} {k : Nat} {p1 p2 p3 pos : Pos} {f : DE} (he : PDe T X e f) (hK : X.K = T.K := by rfl) : PDe T X (.Subscript e (.Slice none none (some (.UnaryOp .USub (.Constant (.int 1) k p1) p2)) p3) pos) (dRev f) := fun pn xe W tk => by
  obtain ⟨t1, p1', d1⟩ := he pn xe W tk
  have hK' : (X.tr pn xe).K = T.K := hK
  refine ⟨_, pe_revL (X := X.tr pn xe) p1', fun σ H P ι F δ s Q R E post => ?_⟩
  rw [hK']
  show t1 σ H _
  refine den_then d1 R E post fun x v H1 ι1 F1 s1 g1 R1 E1 r1 post1 => ?_
  split at post1
  · rename_i xs h
    obtain ⟨a, us, rfl, h2, h3⟩ := lq_of R1 r1 h
    refine ⟨a, us, rfl, h2, fun p hp => post1.new R1 hp fun g => ?_⟩
    unfold Rp
    exact ⟨p, _, rfl, upd_same, h3.rev.mono g⟩
  · exact post1.elim
/-! ## xs[i:j], as a cell -/
def dSlC (f : DE) (lo hi : DOI) : DE := fun δ s => (f δ s).bind fun x s1 => (lo δ s1).bind fun l s2 => (hi δ s2).bind fun u s3 => match lqOf s3 x with
  | some xs => .ok (.loc s3.length) (s3 ++ [.lst (cutL xs l u)])
  | none => .stuck
theorem d_slC {e : Expr} {lo hi : Option Expr} {p2 pos : Pos} {f : DE} {g h : DOI} (he : PDe T X e f) (hl : PDo T X lo g) (hh : PDo T X hi h) (hK : X.K = T.K := by rfl) : PDe T X (.Subscript e (.Slice lo hi none p2) pos) (dSlC f g h) := fun pn xe W tk => by
  obtain ⟨t1, p1, d1⟩ := he pn xe W tk
  obtain ⟨t2, p2, d2⟩ := hl pn xe W tk
  obtain ⟨t3, p3, d3⟩ := hh pn xe W tk
  refine ⟨_, pe_slice (X := X.tr pn xe) sl_list p1 p2 p3, fun σ H P ι F δ s Q R E post => ?_⟩
  show t1 σ H _
  refine den_then d1 R E post fun x y H1 ι1 F1 s1 g1 R1 E1 r1 post1 => ?_
  refine den_then d2 R1 E1 post1 fun l l' H2 ι2 F2 s2 g2 R2 E2 r2 post2 => ?_
  refine den_then d3 R2 E2 post2 fun u u' H3 ι3 F3 s3 g3 R3 E3 r3 post3 => ?_
  cases r2
  cases r3
  have rx := (r1.mono g2).mono g3
  have hK' : (X.tr pn xe).K = T.K := hK
  rw [hK']
  split at post3
  · rename_i xs h
    obtain ⟨a, vs, rfl, h2, h3⟩ := lq_of R3 rx h
    refine ⟨a, vs, rfl, h2, fun p hp => post_loc post3 R3 hp ?_⟩
    exact ⟨R3.freeF hp, _, upd_same, (cut_ok h3 l u).mono (grow_app _ _ _)⟩
  · exact post3.elim
end
end Mp
/-! # MpZ -/
namespace Mp
open PySem PySem.Spec PyProof.Rows L2
section
variable {T : Tb} {X : Cx}
/-! ## enumerate(xs) -/
def enD : Nat → List D → List D
  | _, [] => []
  | i, x :: xs => .tup [.int (i : Int), x] :: enD (i + 1) xs
theorem enD_len : ∀ {i : Nat} {xs : List D}, (enD i xs).length = xs.length
  | _, [] => rfl
  | i, x :: xs => by simp [enD, enD_len (i := i + 1) (xs := xs)]
theorem enD_at : ∀ {xs : List D} {i j : Nat} {x : D}, xs[j]? = some x → (enD i xs)[j]? = some (.tup [.int ((i + j : Nat) : Int), x])
  | [], _, _, _, h => by simp at h
  | y :: ys, i, 0, x, h => by
    simp at h
    subst h
    rfl
  | y :: ys, i, j + 1, x, h => by
    have e := enD_at (i := i + 1) (show ys[j]? = some x by simpa using h)
    show (enD (i + 1) ys)[j]? = _
    rw [e, show i + 1 + j = i + (j + 1) by omega]
theorem walks_enum {F : Hp} {ι : List Addr} {a : Addr} {vs : List V} {ds : List D} (h : SqL T.K F a vs) (r : Rps T F ι ds vs) : Walks T (Ite T.K a) (enD 0 ds) F ι := by
  unfold Walks
  rw [enD_len, r.len]
  exact {
    goes := fun i H hi hF => by
      obtain ⟨x, hx⟩ := get_lt hi
      exact ⟨vs, x, sql_mono hF h, hx⟩
    stops := fun H hF => ⟨vs, sql_mono hF h, Nat.le_refl _⟩
    yields := fun i H x H' hi hF y => by
      obtain ⟨p, z, e1, e2, e3, e4⟩ := y
      have e5 := e4 vs (sql_mono hF h)
      have hi1 : i < ds.length := by rw [r.len]; exact hi
      obtain ⟨d, hd⟩ := get_lt hi1
      obtain ⟨v', h1, h2⟩ := r.get hd
      rw [e5] at h1
      cases h1
      refine ⟨_, enD_at (i := 0) hd, .inr ⟨p, [.int ((i : Nat) : Int), z], _, e1, e2, e3, rfl, .cons ?_ (.cons h2 .nil)⟩⟩
      unfold Rp
      rw [Nat.zero_add] }
def itEnum (f : DA) : DIt := fun δ s => (f δ s).bind fun xs s1 => match xs with
  | [.lst a] => .ok (enD 0 a) s1
  | _ => .stuck
theorem i_enum {e : Expr} {p pos tpos : Pos} {elts : List Expr} {kk : Nat} {f : DA} (hm : X.mg "enumerate" = none) (ha : PDa T X [e] f) (hg : Gl X "enumerate" := by rfl)
    (hs : starEach [e] X.env = [(false, eval e X.env)] := by rfl) (hK : X.K = T.K := by rfl) :
    PDi T X (.Tuple elts kk tpos) (.Call (.Name "enumerate" p) [e] [] pos) (itEnum f) := fun pn xe W tk => by
  obtain ⟨t1, p1, d1⟩ := ha pn xe W tk
  have hK' : (X.tr pn xe).K = T.K := hK
  refine ⟨_, pi_enum (X := X.tr pn xe) hg hm p1 hs, fun σ H P ι F δ s Q R E post => ?_⟩
  rw [hK']
  show t1 σ H _
  refine den_then d1 R E post fun x y H1 ι1 F1 s1 g R1 E1 r1 post1 => ?_
  split at post1
  · obtain ⟨v, rfl, h1⟩ := rps1 r1.1
    unfold Rp at h1
    obtain ⟨a, vs, rfl, h3, h4⟩ := h1
    exact ⟨a, vs, rfl, SqL.of (R1.sub _ _ h3), post1.here R1 (walks_enum (SqL.of h3) h4)⟩
  · exact post1.elim
end
end Mp
namespace Mp
open PySem PySem.Spec PyProof.Rows L2
section
variable {δ : Env} {s : Sto}
@[simp] theorem itEnum_eq {f : DA} : itEnum f δ s = (f δ s).bind fun xs s1 => match xs with
  | [.lst a] => .ok (enD 0 a) s1
  | _ => .stuck := rfl
@[simp] theorem dcOf_dct {ks xs : List D} : dcOf s (.dct ks xs) = some (ks, xs) := rfl
@[simp] theorem dcOf_loc {n : Nat} : dcOf s (.loc n) = match s[n]? with
    | some (.dct ks xs) => some (ks, xs)
    | _ => none := rfl
@[simp] theorem keyD_int {a : Int} : keyD (.int a) = some (.inl a) := rfl
@[simp] theorem keyD_str {z : List Nat} : keyD (.str z) = some (.inr (S z)) := rfl
@[simp] theorem dDix_eq {f g : DE} : dDix f g δ s = (f δ s).bind fun x s1 => (g δ s1).bind fun y s2 => oDix x y s2 := rfl
@[simp] theorem dDin_eq {neg : Bool} {f g : DE} : dDin neg g f δ s = (g δ s).bind fun y s1 => (f δ s1).bind fun x s2 => match dcOf s2 x, keyD y with
  | some (ks, xs), some _ => .ok (.bl (neg != (lkD y ks xs).isSome)) s2
  | _, _ => .stuck := rfl
@[simp] theorem sDput_eq {fv fo fi : DE} : sDput fv fo fi δ s = (fv δ s).out δ fun d s1 => (fo δ s1).out δ fun o s2 => (fi δ s2).out δ fun i s3 => match o, keyD i with
  | .loc n, some _ => match s3[n]? with
    | some (.dct ks xs) => if ks.length < 1000 then .nx δ (s3.set n (.dct (setK i ks) (setD i d ks xs))) else .stuck
    | _ => .stuck
  | _, _ => .stuck := rfl
@[simp] theorem bLenA_loc {n : Nat} {ks xs : List D} (h : s[n]? = some (.dct ks xs)) : bLenA [.loc n] s = .ok (.int ks.length) s := by
  unfold bLenA
  simp [h]
@[simp] theorem bListA_loc {n : Nat} {ks xs : List D} (h : s[n]? = some (.dct ks xs)) : bListA [.loc n] s = .ok (.lst ks) s := by
  unfold bListA
  simp [h]
@[simp] theorem bTuple_lst {xs : List D} : bTuple [.lst xs] s = .ok (.tup xs) s := rfl
@[simp] theorem bTuple_tup {xs : List D} : bTuple [.tup xs] s = .ok (.tup xs) s := rfl
@[simp] theorem dDctC_eq : dDctC δ s = .ok (.loc s.length) (s ++ [.dct [] []]) := rfl
@[simp] theorem dRev_eq {f : DE} : dRev f δ s = (f δ s).bind fun x s1 => match lqOf s1 x with
  | some xs => .ok (.lst xs.reverse) s1
  | none => .stuck := rfl
@[simp] theorem sAug_eq {i : Nat} {g : Int → Int → Int} {f : DE} : sAug i g f δ s = match δ[i]? with
  | some (some (.int a)) => (f δ s).out δ fun x s1 => match x with
    | .int b => .nx (δ.set i (some (.int (g a b)))) s1
    | _ => .stuck
  | _ => .stuck := rfl
@[simp] theorem dSlC_eq {f : DE} {lo hi : DOI} : dSlC f lo hi δ s = (f δ s).bind fun x s1 => (lo δ s1).bind fun l s2 => (hi δ s2).bind fun u s3 => match lqOf s3 x with
  | some xs => .ok (.loc s3.length) (s3 ++ [.lst (cutL xs l u)])
  | none => .stuck := rfl
@[simp] theorem lkD_nil {k : D} : lkD k [] [] = none := rfl
theorem lkD_cons {k c x : D} {ks xs : List D} : lkD k (c :: ks) (x :: xs) = if eqK c k = true then some x else lkD k ks xs := rfl
@[simp] theorem eqK_str {a b : List Nat} : eqK (.str a) (.str b) = (a == b) := rfl
end
end Mp
/-! # MpO -/
namespace Mp
open PySem PySem.Spec PyProof.Rows L2
/-! ## x or y, x and y by truth -/
def truD (s : Sto) : D → Option Bool
  | .non => some false
  | .bl b => some b
  | .int i => some (i != 0)
  | .tup xs => some (!xs.isEmpty)
  | x => match lqOf s x with
    | some xs => some (!xs.isEmpty)
    | none => none
section
variable {T : Tb} {X : Cx}
variable {P F : Hp} {ι : List Addr} {s : Sto} {H : Hp}
theorem emp_of {F : Hp} {ι : List Addr} {ds : List D} {vs : List V} (r : Rps T F ι ds vs) : vs.isEmpty = ds.isEmpty := by
  have h := r.len
  cases ds <;> cases vs <;> simp_all
theorem tru_of (R : RelH T P ι F s H) {d : D} {v : V} {k : Bool} (r : Rp T F ι d v) (e : truD s d = some k) : TruV T.K v H k := by
  have seq : ∀ xs, lqOf s d = some xs → k = !xs.isEmpty → TruV T.K v H k := fun xs h q => by
    obtain ⟨a, vs, rfl, h2, h3⟩ := lq_of R r h
    exact .inl ⟨vs, h2, by rw [emp_of h3, q]⟩
  cases d with
  | non =>
    unfold Rp at r
    cases e
    subst r
    rfl
  | bl b =>
    unfold Rp at r
    cases e
    subst r
    rfl
  | int i =>
    unfold Rp at r
    cases e
    subst r
    rfl
  | tup xs =>
    obtain ⟨a, vs, rfl, h1, h2, h3⟩ := tp_of R r
    cases e
    exact .inr (.inl ⟨vs, SqT.of h1, by rw [emp_of h3]⟩)
  | _ =>
    simp only [truD] at e
    split at e
    · rename_i xs h
      cases e
      exact seq _ h rfl
    · cases e
def dOrT (f g : DE) : DE := fun δ s => (f δ s).bind fun x s1 => match truD s1 x with
  | some true => .ok x s1
  | some false => g δ s1
  | none => .stuck
theorem d_orT {a b : Expr} {rest : List Expr} {pos : Pos} {fa fb : DE} (ha : PDe T X a fa) (hb : PDe T X (.BoolOp .Or (b :: rest) pos) fb) (hK : X.K = T.K := by rfl) : PDe T X (.BoolOp .Or (a :: b :: rest) pos) (dOrT fa fb) := fun pn xe W tk => by
  obtain ⟨t1, p1, d1⟩ := ha pn xe W tk
  obtain ⟨t2, p2, d2⟩ := hb pn xe W tk
  have hK' : (X.tr pn xe).K = T.K := hK
  refine ⟨_, pe_orT (X := X.tr pn xe) p1 p2, fun σ H P ι F δ s Q R E post => ?_⟩
  rw [hK']
  show t1 σ H _
  refine den_then d1 R E post fun x y H1 ι1 F1 s1 g1 R1 E1 r1 post1 => ?_
  cases h : truD s1 x with
  | none =>
    rw [h] at post1
    exact post1.elim
  | some b =>
    rw [h] at post1
    refine ⟨b, tru_of R1 r1 h, ?_⟩
    cases b with
    | true =>
      rw [if_pos rfl]
      exact post1.here R1 r1
    | false =>
      rw [if_neg Bool.false_ne_true]
      exact d2 _ _ _ _ _ _ _ _ R1 E1 post1
/-- a value as a test, by its truth -/
def tTru (f : DE) : DT := fun δ s => (f δ s).bind fun x s1 => match truD s1 x with
  | some b => .ok b s1
  | none => .stuck
theorem t_tru {e : Expr} {f : DE} (h : PDe T X e f) (he : ∀ whole, isTrue e X.env whole = (do let v ← whole; standAt e.pos; holding [v] (truthy v)) := by intro _; rfl) (hK : X.K = T.K := by rfl) : PDt T X e (tTru f) := fun pn xe W tk => by
  obtain ⟨t1, p1, d1⟩ := h pn xe W tk
  have hK' : (X.tr pn xe).K = T.K := hK
  refine ⟨_, pt_truth (X := X.tr pn xe) p1 he, fun σ H P ι F δ s Q R E post => ?_⟩
  rw [hK']
  show t1 σ H _
  refine den_then d1 R E post fun x y H1 ι1 F1 s1 g1 R1 E1 r1 post1 => ?_
  cases h : truD s1 x with
  | none =>
    rw [h] at post1
    exact post1.elim
  | some b =>
    rw [h] at post1
    exact ⟨b, tru_of R1 r1 h, post1.here R1 rfl⟩
end
section
variable {δ : Env} {s : Sto}
@[simp] theorem dOrT_eq {f g : DE} : dOrT f g δ s = (f δ s).bind fun x s1 => match truD s1 x with
  | some true => .ok x s1
  | some false => g δ s1
  | none => .stuck := rfl
@[simp] theorem tTru_eq {f : DE} : tTru f δ s = (f δ s).bind fun x s1 => match truD s1 x with
  | some b => .ok b s1
  | none => .stuck := rfl
@[simp] theorem truD_non : truD s .non = some false := rfl
@[simp] theorem truD_bl {b : Bool} : truD s (.bl b) = some b := rfl
@[simp] theorem truD_int {i : Int} : truD s (.int i) = some (i != 0) := rfl
@[simp] theorem truD_tup {xs : List D} : truD s (.tup xs) = some (!xs.isEmpty) := rfl
@[simp] theorem truD_lst {xs : List D} : truD s (.lst xs) = some (!xs.isEmpty) := rfl
end
end Mp
/-! # MpP -/
namespace Mp
open PySem PySem.Spec PyProof.Rows L2
/-! ## triples of a number and two texts: min, remove -/
abbrev T3 := Int × List Nat × List Nat
def d3 (t : T3) : D := .tup [.int t.1, .str t.2.1, .str t.2.2]
def of3 : D → Option T3
  | .tup [.int m, .str a, .str b] => some (m, a, b)
  | _ => none
def of3s : List D → Option (List T3)
  | [] => some []
  | d :: r => match of3 d, of3s r with
    | some t, some ts => some (t :: ts)
    | _, _ => none
theorem of3_ok {d : D} {t : T3} (h : of3 d = some t) : d = d3 t := by
  unfold of3 at h
  split at h
  · cases h; rfl
  · cases h
theorem of3s_ok : ∀ {ds : List D} {ts : List T3}, of3s ds = some ts → ds = ts.map d3
  | [], ts, h => by cases h; rfl
  | d :: r, ts, h => by
    unfold of3s at h
    cases h1 : of3 d with
    | none => rw [h1] at h; cases h
    | some t =>
      cases h2 : of3s r with
      | none => rw [h1, h2] at h; cases h
      | some us =>
        rw [h1, h2] at h
        cases h
        rw [of3_ok h1, of3s_ok h2]
        rfl
theorem of3s_map : ∀ ts : List T3, of3s (ts.map d3) = some ts
  | [] => rfl
  | t :: ts => by
    rw [List.map_cons]
    unfold of3s
    rw [of3s_map ts]
    rfl
def p3 (t : T3) : PyData := .tuple [.int t.1, .str (S t.2.1), .str (S t.2.2)]
theorem p3_inj {a b : T3} (h : p3 a = p3 b) : a = b := by
  unfold p3 at h
  injection h with h
  injection h with h1 h
  injection h with h2 h
  injection h with h3 h
  injection h1 with h1
  injection h2 with h2
  injection h3 with h3
  obtain ⟨a1, a2, a3⟩ := a
  obtain ⟨b1, b2, b3⟩ := b
  simp only at h1 h2 h3
  rw [h1, S_inj h2, S_inj h3]
theorem toP3 (t : T3) : toP (d3 t) = some (p3 t) := rfl
theorem toPs3 : ∀ ts : List T3, toPs (ts.map d3) = some (ts.map p3)
  | [] => rfl
  | t :: ts => by
    rw [List.map_cons]
    unfold toPs
    rw [toP3, toPs3 ts]
    rfl
def lt3 (a b : T3) : Bool := PySem.W.dataLt (p3 a) (p3 b)
def min3 (x : T3) (xs : List T3) : T3 := xs.foldl (fun a y => if lt3 y a = true then y else a) x
theorem minD3 : ∀ (xs : List T3) (x : T3), PySem.W.minD (p3 x) (xs.map p3) = p3 (min3 x xs)
  | [], x => rfl
  | y :: xs, x => by
    have ih := minD3 xs (if lt3 y x = true then y else x)
    unfold PySem.W.minD min3 at ih ⊢
    rw [List.map_cons, List.foldl_cons, List.foldl_cons, ← ih]
    have : (if PySem.W.dataLt (p3 y) (p3 x) = true then p3 y else p3 x) = p3 (if lt3 y x = true then y else x) := by
      unfold lt3
      split <;> rfl
    rw [this]
theorem dep3 : ∀ ts : List T3, PyData.depthAll (ts.map p3) ≤ 1
  | [] => Nat.zero_le _
  | t :: ts => by
    rw [List.map_cons]
    unfold PyData.depthAll
    have := dep3 ts
    have e : (p3 t).depth = 1 := rfl
    rw [e]
    omega
theorem alike3 (ts : List T3) : PySem.W.AlikeAll (ts.map p3) := ⟨fun x hx y hy => by
    obtain ⟨i, _, rfl⟩ := List.mem_map.mp hx
    obtain ⟨j, _, rfl⟩ := List.mem_map.mp hy
    rfl, fun x hx => by
    obtain ⟨i, _, rfl⟩ := List.mem_map.mp hx
    intro z; cases z⟩
theorem plain3 : ∀ ts : List T3, PyData.plainAll (ts.map p3) = true
  | [] => rfl
  | t :: ts => by
    rw [List.map_cons]
    unfold PyData.plainAll
    rw [plain3 ts]
    rfl
def rMin3 (K : PySem.W.Frag) : List V → Hp → VK → Prop := fun xs H Q => ∃ (a : Addr) (vs : List V) (t : T3) (ts : List T3), xs = [.ref a] ∧ SqL K H a vs ∧ DpAll K H vs ((t :: ts).map p3) ∧ ∀ (i : Nat) (v : V), (t :: ts)[i]? = some (min3 t ts) → vs[i]? = some v → Q v H
theorem call_min3D {X : Cx} (hc : X.calm = true) (hu : X.A.units + 64 < cLine) : CallR X (.builtin "min") (rMin3 X.K) := by
  intro pins s σ H xs us Q I r h
  obtain ⟨a, vs, t, ts, rfl, hs, hd, q⟩ := h
  obtain ⟨its, rv, hl, _⟩ := I.list hs
  rw [Vals.ref1 r]
  obtain ⟨as, hr⟩ := Dp.readsAll I _ vs its hd rv
  have dep := dep3 (t :: ts)
  refine PySem.W.min_list_data (I.ok.hd hc) hl.isList (by rw [List.toList_toArray]; exact hr) (alike3 (t :: ts)) (by rw [List.map_cons] at dep; omega) (fun i v h' tk bs hv rd hk => ?_)
  have hv' : its[i]? = some v := by simpa using hv
  obtain ⟨cs, rc, hi, _⟩ := PySem.W.readsAll_at hr i v hv'
  have hi' : i < (t :: ts).length := by simpa using hi
  have ti : (t :: ts)[i]? = some ((t :: ts)[i]) := List.getElem?_eq_getElem hi'
  have e1 : ((t :: ts).map p3).getD i .none = p3 ((t :: ts)[i]) := by
    rw [List.getD_eq_getElem?_getD, List.getElem?_map, ti]
    rfl
  rw [e1] at rc
  have r1 := SeqAt.readOf_plain rfl (PySem.W.reads_keeps hk rc)
  have rd2 : Reads h' v (p3 (min3 t ts)) bs := by
    rw [← minD3]
    exact rd
  have r2 := SeqAt.readOf_plain rfl rd2
  have e2 := p3_inj (r1.symm.trans r2)
  have hlen := rv.length
  have hiv : i < vs.length := by
    have := (List.getElem?_eq_some_iff.mp hv').1
    omega
  obtain ⟨u, hu1, hu2⟩ := Vals.get rv (List.getElem?_eq_getElem hiv)
  rw [hv'] at hu1
  cases hu1
  exact ⟨vs[i], H, I.kept hk, hu2, q i _ (by rw [ti, e2]) (List.getElem?_eq_getElem hiv)⟩
def bMin3 : DB
  | [x], s => match (lqOf s x).bind of3s with
    | some (t :: ts) => .ok (d3 (min3 t ts)) s
    | _ => .stuck
  | _, _ => .stuck
section
variable {T : Tb}
theorem rps_at {F : Hp} {ι : List Addr} : ∀ {ds : List D} {vs : List V} {i : Nat} {d : D} {v : V}, Rps T F ι ds vs → ds[i]? = some d → vs[i]? = some v → Rp T F ι d v
  | [], vs, i, d, v, r, h, _ => by cases h
  | x :: xs, vs, i, d, v, r, h, k => by
    unfold Rps at r
    obtain ⟨u, us, rfl, r1, r2⟩ := r
    cases i with
    | zero => cases h; cases k; exact r1
    | succ i => exact rps_at r2 h k
theorem db_min3 : DenB T (rMin3 T.K) bMin3 := by
  intro ds vs H P ι F s Q E R r post
  rcases ds with _ | ⟨x, _ | ⟨y, w⟩⟩
  · exact post.elim
  · obtain ⟨v, rfl, h1⟩ := rps1 r
    unfold bMin3 at post
    dsimp only at post
    cases q : lqOf s x with
    | none => rw [q] at post; exact post.elim
    | some xs =>
      rw [q] at post
      cases h : of3s xs with
      | none => rw [Option.bind_some, h] at post; exact post.elim
      | some us =>
        rw [Option.bind_some, h] at post
        cases us with
        | nil => exact post.elim
        | cons t ts =>
          obtain ⟨a, us, rfl, h2, h3⟩ := lq_of R h1 q
          have e := of3s_ok h
          subst e
          refine ⟨a, us, t, ts, rfl, h2, dps_of R h3 (toPs3 _), fun i v hi hv => ?_⟩
          have hd : ((t :: ts).map d3)[i]? = some (d3 (min3 t ts)) := by rw [List.getElem?_map, hi]; rfl
          exact post.here R (rps_at h3 hd hv)
  · exact post.elim
end
/-! ### remove -/
def rRem3 (K : PySem.W.Frag) : V → List V → Hp → VK → Prop := fun x xs H Q => ∃ (l : Addr) (vs : List V) (y : V) (ts : List T3) (t : T3) (j : Nat), x = .ref l ∧ xs = [y] ∧ H l = some (.lst vs) ∧ DpAll K H vs (ts.map p3) ∧ Dp K H y (p3 t) ∧ ts.findIdx? (· == t) = some j ∧ Q .non (upd H l (.lst (vs.eraseIdx j)))
theorem eqv3 (a b : T3) : PyData.eqv (p3 a) (p3 b) = (a == b) := by
  obtain ⟨a1, a2, a3⟩ := a
  obtain ⟨b1, b2, b3⟩ := b
  have hs : ∀ x y : List Nat, (S x == S y) = (x == y) := fun x y => by
    rw [Bool.eq_iff_iff, beq_iff_eq, beq_iff_eq]
    exact ⟨S_inj, fun e => by rw [e]⟩
  show (PyData.eqvAll [.int a1, .str (S a2), .str (S a3)] [.int b1, .str (S b2), .str (S b3)]) = _
  simp only [PyData.eqvAll, PyData.eqv, Bool.and_true]
  rw [Bool.eq_iff_iff]
  simp
  intro _
  constructor
  · rintro ⟨h1, h2⟩
    exact ⟨S_inj h1, S_inj h2⟩
  · rintro ⟨rfl, rfl⟩
    exact ⟨rfl, rfl⟩
theorem place3 {t : T3} : ∀ ts : List T3, SeqAt.dataPlace (ts.map p3) (p3 t) = ts.findIdx? (· == t)
  | [] => rfl
  | u :: ts => by
    have ih := place3 (t := t) ts
    unfold SeqAt.dataPlace at ih ⊢
    rw [List.map_cons, List.findIdx?_cons, List.findIdx?_cons, eqv3, ih]
theorem mt_rem3 {X : Cx} (hu : X.A.units + 64 < cLine) : MtR X "list.remove" (rRem3 X.K) := by
  intro pins s σ H x xs v us Q I rx rxs h
  obtain ⟨l, vs, y, ts, t, j, rfl, rfl, hH, hd, hy, hj, q⟩ := h
  cases rx
  obtain ⟨u, rfl, ru⟩ := rxs.one
  obtain ⟨z, its, n, r, hl, e⟩ := I.lstM hH
  obtain ⟨bs, rd⟩ := Dp.reads I _ y u hy ru
  obtain ⟨as, ra⟩ := Dp.readsAll I _ vs its hd r
  have dep : (p3 t).depth = 1 := rfl
  refine SeqAt.remove_list_data (vs := its.toArray) ⟨_, e, rfl, n, rfl⟩ (by rw [List.toList_toArray]; exact ra) rd (plain3 ts) rfl (by rw [dep]; omega) (by rw [place3]; exact hj) (by rw [List.size_toArray]; omega) ?_
  refine ⟨.non, _, I.lset (its' := its.eraseIdx j) (t' := s.toks) hH e ?_ (r.eraseIdx j) ?_, rfl, q⟩
  · show its.toArray.eraseIdxIfInBounds j = (its.eraseIdx j).toArray
    rw [List.eraseIdxIfInBounds_toArray]
  · have : (vs.eraseIdx j).length ≤ vs.length := by rw [List.length_eraseIdx]; split <;> omega
    omega
def mRem3 : DM
  | .loc n, [y], s => match s[n]? with
    | some (.lst xs) => match of3s xs, of3 y with
      | some ts, some t => match ts.findIdx? (· == t) with
        | some j => .ok .non (s.set n (.lst (xs.eraseIdx j)))
        | none => .stuck
      | _, _ => .stuck
    | _ => .stuck
  | _, _, _ => .stuck
section
variable {T : Tb}
theorem Rps.erase {F : Hp} {ι : List Addr} : ∀ {ds : List D} {vs : List V} (j : Nat), Rps T F ι ds vs → Rps T F ι (ds.eraseIdx j) (vs.eraseIdx j)
  | [], vs, j, r => by unfold Rps at r; subst r; simpa using Rps.nil
  | x :: xs, vs, j, r => by
    unfold Rps at r
    obtain ⟨u, us, rfl, r1, r2⟩ := r
    cases j with
    | zero => exact r2
    | succ j =>
      show Rps T F ι (x :: xs.eraseIdx j) (u :: us.eraseIdx j)
      unfold Rps
      exact ⟨u, _, rfl, r1, Rps.erase j r2⟩
theorem dm_rem3 : DenM T (rRem3 T.K) mRem3 := by
  intro d ds v vs H P ι F s Q E R r rs post
  unfold mRem3 at post
  split at post
  · rename_i n y _
    obtain ⟨u, rfl, h1⟩ := rps1 rs
    unfold Rp at r
    obtain ⟨a, e1, rfl⟩ := r
    split at post
    · rename_i xs hs
      split at post
      · rename_i ts t k1 k2
        split at post
        · rename_i j hj
          obtain ⟨h2, us, h3, h4⟩ := lc_of R hs e1
          have ex := of3s_ok k1
          have ey := of3_ok k2
          subst ey
          refine ⟨a, us, u, ts, t, j, rfl, rfl, h3, ?_, dp_of R h1 (toP3 t), hj, ?_⟩
          · rw [ex] at h4
            exact dps_of R h4 (toPs3 ts)
          · exact post .non _ ι F (Grow.refl _ _) (R.setC hs rfl e1 ⟨h2, _, upd_same, h4.erase j⟩) (by unfold Rp; rfl)
        · exact post.elim
      · exact post.elim
    · exact post.elim
  · exact post.elim
end
end Mp
/-! # MpQ -/
namespace Mp
open PySem PySem.Spec PyProof.Rows L2
/-! ## x in xs, data of some depth -/
def rInX (K : PySem.W.Frag) (neg : Bool) : R2 := fun x y H Q => ∃ d ds, Dp K H x d ∧ (Dp K H y (.list ds) ∨ Dp K H y (.tuple ds)) ∧ SeqAt.shaped d = true ∧ SeqAt.shaped (.list ds) = true ∧ d.depth ≤ 8 ∧ Q (.bl (neg != ds.any fun z => PyData.eqv z d)) H
theorem op_inX {X : Cx} (hu : X.A.units + 64 < cLine) : OpR X (compareOp .In) (rInX X.K false) := by
  intro pins s σ H x y v u Q I rx ry h
  obtain ⟨d, ds, hd, he, sd, se, dd, q⟩ := h
  obtain ⟨as, r1⟩ := Dp.reads I d x v hd rx
  rw [Bool.false_bne] at q
  rcases he with he | he
  · obtain ⟨bs, r2⟩ := Dp.reads I (.list ds) y u he ry
    exact SeqAt.in_list_reads r2 r1 (SeqAt.canLay_of_shaped se) (SeqAt.canLay_of_shaped sd) (by omega) ⟨.bl _, H, I, rfl, q⟩
  · obtain ⟨bs, r2⟩ := Dp.reads I (.tuple ds) y u he ry
    exact SeqAt.in_tuple_reads r2 r1 (SeqAt.canLay_of_shaped se) (SeqAt.canLay_of_shaped sd) (by omega) ⟨.bl _, H, I, rfl, q⟩
theorem op_notInX {X : Cx} (hu : X.A.units + 64 < cLine) : OpR X (compareOp .NotIn) (rInX X.K true) := by
  intro pins s σ H x y v u Q I rx ry h
  obtain ⟨d, ds, hd, he, sd, se, dd, q⟩ := h
  obtain ⟨as, r1⟩ := Dp.reads I d x v hd rx
  rw [Bool.true_bne] at q
  rcases he with he | he
  · obtain ⟨bs, r2⟩ := Dp.reads I (.list ds) y u he ry
    exact SeqAt.notIn_list_reads r2 r1 (SeqAt.canLay_of_shaped se) (SeqAt.canLay_of_shaped sd) (by omega) ⟨.bl _, H, I, rfl, q⟩
  · obtain ⟨bs, r2⟩ := Dp.reads I (.tuple ds) y u he ry
    exact SeqAt.notIn_tuple_reads r2 r1 (SeqAt.canLay_of_shaped se) (SeqAt.canLay_of_shaped sd) (by omega) ⟨.bl _, H, I, rfl, q⟩
def sqD (s : Sto) : D → Option (List D)
  | .tup ys => some ys
  | y => lqOf s y
def oInX (neg : Bool) : DOp := fun x y s => match toP x, (sqD s y).bind toPs with
  | some d, some ds => if (SeqAt.shaped d && (SeqAt.shaped (.list ds) && decide (d.depth ≤ 8))) = true then .ok (.bl (neg != ds.any fun z => PyData.eqv z d)) s else .stuck
  | _, _ => .stuck
section
variable {T : Tb}
theorem do_inX {neg : Bool} : DenOp T (rInX T.K neg) (oInX neg) := by
  intro v u x y H P ι F s Q E R rx ry post
  unfold oInX at post
  cases h1 : toP x with
  | none => rw [h1] at post; exact post.elim
  | some d =>
    cases h2 : (sqD s y).bind toPs with
    | none => rw [h1, h2] at post; exact post.elim
    | some ds =>
      rw [h1, h2] at post
      dsimp only at post
      split at post
      · rename_i hc
        simp only [Bool.and_eq_true, decide_eq_true_eq] at hc
        refine ⟨d, ds, dp_of R rx h1, ?_, hc.1, hc.2.1, hc.2.2, post.here R (by unfold Rp; rfl)⟩
        cases q : sqD s y with
        | none => rw [q] at h2; cases h2
        | some ys =>
          rw [q] at h2
          have h3 : toPs ys = some ds := h2
          cases y with
          | tup zs =>
            cases q
            obtain ⟨a, vs, rfl, e1, e2, e3⟩ := tp_of R ry
            exact .inr (.tup (SqT.of e1) (dps_of R e3 h3))
          | _ =>
            first
              | (obtain ⟨a, vs, rfl, e1, e2⟩ := lq_of R ry q; exact .inl (.lst e1 (dps_of R e2 h3)))
              | cases q
      · exact post.elim
end
section
variable {s : Sto}
theorem any_eqv {n m : Nat} {x : D} {d : PyData} (hx : datD m x = true) (ex : toP x = some d) : ∀ {ys : List D} {ds : List PyData}, datDs n ys = true → toPs ys = some ds → (ds.any fun z => PyData.eqv z d) = ys.any fun z => eqD z x
  | [], ds, _, e => by cases e; rfl
  | y :: ys, ds, h, e => by
    have h' : (datD n y && datDs n ys) = true := h
    rw [Bool.and_eq_true] at h'
    unfold toPs at e
    cases h3 : toP y with
    | none => rw [h3] at e; cases e
    | some p =>
      cases h4 : toPs ys with
      | none => rw [h3, h4] at e; cases e
      | some ps =>
        rw [h3, h4] at e
        cases e
        rw [List.any_cons, List.any_cons, eqv_ok h'.1 hx h3 ex, any_eqv hx ex h'.2 h4]
theorem toPs_lst {ys : List D} {p : PyData} (h : toP (.lst ys) = some p) : ∃ ps, toPs ys = some ps ∧ p = .list ps := by
  unfold toP at h
  cases q : toPs ys with
  | none => rw [q] at h; cases h
  | some ps => rw [q] at h; cases h; exact ⟨ps, rfl, rfl⟩
theorem oInX_ok {neg : Bool} {x y : D} {ys : List D} (hx : datD 8 x = true) (hy : datDs 63 ys = true) (hs : sqD s y = some ys) : oInX neg x y s = .ok (.bl (neg != ys.any fun z => eqD z x)) s := by
  obtain ⟨d, h1, h2, h3⟩ := dat_ok hx
  obtain ⟨q, h4, h5, h6⟩ := dat_ok (x := .lst ys) (n := 64) hy
  obtain ⟨ps, h7, rfl⟩ := toPs_lst h4
  unfold oInX
  rw [h1, hs, Option.bind_some, h7]
  dsimp only
  rw [shaped_of h2 (by omega), shaped_of h5 h6, decide_eq_true (show d.depth ≤ 8 from h3), any_eqv hx h1 hy h7]
  rfl
end
/-! ## dict(list of pairs) -/
def dctF : List D → List D → List D → Option (List D × List D)
  | [], ks, xs => some (ks, xs)
  | .tup [k, v] :: r, ks, xs => match keyD k with
    | some _ => dctF r (setK k ks) (setD k v ks xs)
    | none => none
  | _ :: _, _, _ => none
def bDictP : DB
  | [x], s => match (lqOf s x).bind fun ds => dctF ds [] [] with
    | some (ks, xs) => .ok (.loc s.length) (s ++ [.dct ks xs])
    | none => .stuck
  | _, _ => .stuck
def rDictP (K : PySem.W.Frag) : List V → Hp → VK → Prop := fun xs H Q => ∃ (a : Addr) (ps : List Addr) (kvs : List (Key × V)), xs = [.ref a] ∧ SqL K H a (ps.map V.ref) ∧ Paired (fun p kv => SqT K H p [kV kv.1, kv.2]) ps kvs ∧ ∀ p, H p = none → Q (.ref p) (upd H p (.dK (mergeK [] kvs)))
theorem call_dictX {X : Cx} (hc : X.calm = true) : CallR X (.type "dict") (rDictP X.K) := call_dictP hc
section
variable {T : Tb}
theorem dctF_ok {P : Hp} {ι : List Addr} {F : Hp} {s : Sto} {H : Hp} (R : RelH T P ι F s H) : ∀ {ds : List D} {vs : List V} {kvs0 : List (Key × V)} {xs0 ks xs : List D}, Rps T F ι ds vs → Rps T F ι xs0 (kvs0.map (·.2)) → dctF ds (kvs0.map fun p => kD p.1) xs0 = some (ks, xs) →
    ∃ (ps : List Addr) (kvs : List (Key × V)), vs = ps.map V.ref ∧ Paired (fun p kv => SqT T.K H p [kV kv.1, kv.2]) ps kvs ∧ ks = (mergeK kvs0 kvs).map (fun p => kD p.1) ∧ Rps T F ι xs ((mergeK kvs0 kvs).map (·.2))
  | [], vs, kvs0, xs0, ks, xs, r, r0, h => by
    unfold Rps at r
    subst r
    unfold dctF at h
    cases h
    exact ⟨[], [], rfl, .nil, rfl, r0⟩
  | d :: ds, vs, kvs0, xs0, ks, xs, r, r0, h => by
    unfold Rps at r
    obtain ⟨u, us, rfl, r1, r2⟩ := r
    unfold dctF at h
    split at h
    · rename_i heq; cases heq
    · rename_i k v r' heq
      cases heq
      split at h
      · rename_i key hk
        obtain ⟨a, vs, rfl, h1, _, h3⟩ := tp_of R r1
        unfold Rps at h3
        obtain ⟨w1, ws, rfl, q1, h3⟩ := h3
        unfold Rps at h3
        obtain ⟨w2, ws, rfl, q2, h3⟩ := h3
        unfold Rps at h3
        subst h3
        have e := key_of' q1 hk
        subst e
        obtain ⟨p1, p2⟩ := put_valV hk q2 r0
        rw [p1] at h
        obtain ⟨ps, kvs, rfl, g1, g2, g3⟩ := dctF_ok R r2 p2 h
        exact ⟨a :: ps, (key, w2) :: kvs, rfl, .cons (SqT.of h1) g1, g2, g3⟩
      · cases h
    · cases h
theorem db_dictP : DenB T (rDictP T.K) bDictP := by
  intro ds vs H P ι F s Q E R r post
  rcases ds with _ | ⟨x, _ | ⟨y, w⟩⟩
  · exact post.elim
  · obtain ⟨v, rfl, h1⟩ := rps1 r
    unfold bDictP at post
    dsimp only at post
    cases q : lqOf s x with
    | none => rw [q] at post; exact post.elim
    | some xs =>
      rw [q, Option.bind_some] at post
      cases h : dctF xs [] [] with
      | none => rw [h] at post; exact post.elim
      | some kx =>
        obtain ⟨ks, ys⟩ := kx
        rw [h] at post
        dsimp only at post
        obtain ⟨a, us, rfl, h2, h3⟩ := lq_of R h1 q
        obtain ⟨ps, kvs, rfl, g1, g2, g3⟩ := dctF_ok R (kvs0 := []) h3 (by unfold Rps; rfl) h
        refine ⟨a, ps, kvs, rfl, h2, g1, fun p hp => post_loc post R hp ?_⟩
        exact ⟨R.freeF hp, _, upd_same, g2, g3.mono (grow_app _ _ _)⟩
  · exact post.elim
end
/-! ## list(range(a, b)) -/
def dListR2 (f g : DE) : DE := fun δ s => (f δ s).bind fun x s1 => (g δ s1).bind fun y s2 => match x, y with
  | .int a, .int b => if 0 ≤ a ∧ a ≤ 1000 ∧ 0 ≤ b ∧ b ≤ 1000 then .ok (.lst (intsD a (b - a).toNat)) s2 else .stuck
  | _, _ => .stuck
section
variable {T : Tb} {X : Cx}
theorem rps_rg2 {F : Hp} {ι : List Addr} (a b : Int) : Rps T F ι (intsD a (b - a).toNat) (rgV a b) := by
  have := rps_ints (T := T) (F := F) (ι := ι) ((List.range (b - a).toNat).map fun (i : Nat) => a + (i : Int))
  rw [List.map_map, List.map_map] at this
  exact this
theorem d_listR2 {a b : Expr} {f g : DE} {p p2 q pos : Pos} (hm : X.mg "list" = none) (hm2 : X.mg "range" = none) (ha : PDe T X a f) (hb : PDe T X b g) (hg : Gl X "list" := by rfl) (hg2 : Gl X "range" := by rfl) (hc : X.calm = true := by rfl)
    (na : starEach [a, b] X.env = (false, eval a X.env) :: starEach [b] X.env := by rfl) (nb : starEach [b] X.env = (false, eval b X.env) :: starEach [] X.env := by rfl) (hp : (backTo q (starEach [b] X.env)).any (·.1) = false := by rfl)
    (na2 : starEach [Expr.Call (.Name "range" p2) [a, b] [] q] X.env = (false, eval (Expr.Call (.Name "range" p2) [a, b] [] q) X.env) :: starEach [] X.env := by rfl) :
    PDe T X (.Call (.Name "list" p) [.Call (.Name "range" p2) [a, b] [] q] [] pos) (dListR2 f g) := fun pn xe W tk => by
  obtain ⟨t1, p1, d1⟩ := ha pn xe W tk
  obtain ⟨t2, p2', d2⟩ := hb pn xe W tk
  refine ⟨_, pe_listRg (X := X.tr pn xe) hc hg hm (prg_2 hg2 hm2 p1 p2' na nb hp) na2, fun σ H P ι F δ s Q R E post => ?_⟩
  show t1 σ H _
  refine den_then d1 R E post fun x v H1 ι1 F1 s1 g1 R1 E1 r1 post1 => ?_
  refine den_then d2 R1 E1 post1 fun y w H2 ι2 F2 s2 g2 R2 E2 r2 post2 => ?_
  split at post2
  · rename_i i j
    have r1' := r1.mono g2
    unfold Rp at r1' r2
    subst r1' r2
    split at post2
    · rename_i hn
      refine ⟨i, j, rfl, rfl, RgOk.of_le (by omega) (by omega) (by omega) (by omega), fun l hl => ?_⟩
      refine post2.new R2 hl fun gg => ?_
      unfold Rp
      exact ⟨l, _, rfl, upd_same, rps_rg2 i j⟩
    · exact post2.elim
  · exact post2.elim
end
/-! ## xs = [.. for x in o], o a list cell -/
section
variable {T : Tb} {X : Cx}
theorem den_lcA {W : WX} {t1 : TE} {f : DE} {ws vs0 : List Nat} {t : DTg} {c : DT} {e : DE} (d1 : DenG T (Rp T) W t1 f) (hs : ∀ i ∈ ws, i ∈ vs0) : DenG T (Rp T) W (tLc (fun σ H R => (iList T.K t1 σ H R ∨ iTup T.K t1 σ H R) ∨ iStr t1 σ H R) (canT T ws t) (canE T eqR W0 c) (canE T (Rp T) W0 e) vs0) (dLcA f t c e vs0) := fun σ H P ι F δ s Q R E post => by
  have post0 : Post T P (Rp T) Q (fun c H' => W (.ref (T.ca c)) none σ H') F ι ((f δ s).bind fun x s1 => match itCel x s1 with
    | some (ds, s2, h) => backO h (lcL t c e (wipeE δ vs0) ds [] s2)
    | none => .stuck) := post
  cases ef : f δ s with
  | stuck => rw [ef] at post0; exact post0.elim
  | exc k s1 =>
    rw [ef] at post0
    refine .inl (.inl ?_)
    show t1 σ H _
    refine d1 σ H P ι F δ s _ R E ?_
    rw [ef]
    exact fun H' ι' F' g R' => post0 H' ι' F' g R'
  | ok x s1 =>
    rw [ef] at post0
    have run : ∀ {G : V → Hp → Prop}, (∀ v H' ι' F', Grow F ι F' ι' → RelH T P ι' F' s1 H' → Rp T F' ι' x v → G v H') → t1 σ H G := fun {G} h => by
      refine d1 σ H P ι F δ s G R E ?_
      rw [ef]
      exact h
    cases x with
    | lst xs =>
      refine .inl (.inl ?_)
      show t1 σ H _
      refine run fun v H1 ι1 F1 g1 R1 r1 => ?_
      unfold Rp at r1
      obtain ⟨a, vs, rfl, h1, h2⟩ := r1
      exact ⟨a, rfl, ⟨vs, SqL.of (R1.sub _ _ h1)⟩, lc_run hs ((walks_list (SqL.of h1) h2).toP P) R1 (E.mono g1) (Post.mono g1 post0)⟩
    | scr ns =>
      refine .inl (.inl ?_)
      show t1 σ H _
      refine run fun v H1 ι1 F1 g1 R1 r1 => ?_
      unfold Rp at r1
      obtain ⟨a, rfl, h1⟩ := r1
      exact ⟨a, rfl, ⟨_, sql_mono R1.sub h1⟩, lc_run hs ((walks_list h1 (rps_ints ns)).toP P) R1 (E.mono g1) (Post.mono g1 post0)⟩
    | tup xs =>
      refine .inl (.inr ?_)
      show t1 σ H _
      refine run fun v H1 ι1 F1 g1 R1 r1 => ?_
      obtain ⟨a, vs, rfl, h1, h0, h2⟩ := tp_of R1 r1
      exact ⟨a, rfl, ⟨vs, SqT.of h1⟩, lc_run hs ((walks_tup h0 h2).toP P) R1 (E.mono g1) (Post.mono g1 post0)⟩
    | str z =>
      refine .inr ?_
      show t1 σ H _
      refine run fun v H1 ι1 F1 g1 R1 r1 => ?_
      unfold Rp at r1
      exact ⟨S z, r1, lc_run hs ((walks_str z).toP P) R1 (E.mono g1) (Post.mono g1 post0)⟩
    | loc n =>
      refine .inl (.inl ?_)
      show t1 σ H _
      refine run fun v H1 ι1 F1 g1 R1 r1 => ?_
      have post1 : Post T P (Rp T) Q (fun c H' => W (.ref (T.ca c)) none σ H') F ι (match itCel (.loc n) s1 with
        | some (ds, s2, h) => backO h (lcL t c e (wipeE δ vs0) ds [] s2)
        | none => .stuck) := post0
      unfold Rp at r1
      obtain ⟨a, e1, rfl⟩ := r1
      unfold itCel at post1
      dsimp only at post1
      cases hs1 : s1[n]? with
      | none => rw [hs1] at post1; exact post1.elim
      | some cl =>
        rw [hs1] at post1
        cases cl with
        | lst xs =>
          obtain ⟨vs, h1, h2, h3, h4, R2⟩ := R1.hold hs1 e1
          exact ⟨a, rfl, ⟨vs, SqL.of h1⟩, lc_run hs (walksP_cell (P := upd P a (.lst vs)) upd_same h2) R2 (E.mono g1) (post_back h4 e1 h2 (Post.mono g1 post1))⟩
        | _ => exact post1.elim
    | _ => exact post0.elim

theorem s_setLcA {elt tg iter : Expr} {ifs : List Expr} {scope : Scope} {own : List (Str × Nat)} {pos spos py : Pos} {y : Str} {f : DE} {ws : List Nat} {t : DTg} {c : DT} {e : DE} (i : Nat) (hN : X.N.Nodup) (hi : PDe T X iter f) (ok : BlkOk X.N X.env.scope scope own)
    (hg : ∀ (s : Shared) (H : Hp) (C : Addr) (cl : List (Str × Addr)) (fp : List Addr), PDg T (Blk X scope s H C cl fp) tg ws t) (ht : ∀ (s : Shared) (H : Hp) (C : Addr) (cl : List (Str × Addr)) (fp : List Addr), PDts T (Blk X scope s H C cl fp) ifs c)
    (he : ∀ (s : Shared) (H : Hp) (C : Addr) (cl : List (Str × Addr)) (fp : List Addr), PDe T (Blk X scope s H C cl fp) elt e) (hsw : swapsWith (.ListComp elt [⟨tg, iter, ifs, 0⟩] scope pos) (some (.Name y py)) spos.line X.env = pure true)
    (hy : X.N[i]? = some y := by rfl) (hyl : X.env.scope.names.lookup y = some .local := by rfl) (hs : ∀ i ∈ ws, i ∈ own.map (·.2) := by decide) (hf : ∀ x, foldedSetIterable iter X.env x = pure x := by intro _; rfl) (hc : X.calm = true := by rfl) (hK : X.K = T.K := by rfl) :
    PDs T X (.Assign [.Name y py] (.ListComp elt [⟨tg, iter, ifs, 0⟩] scope pos) spos) (sSet i (dLcA f t c e (own.map (·.2)))) := fun pn xe W tk _ => by
  obtain ⟨t1, p1, d1⟩ := hi pn xe W tk
  have hK' : (X.tr pn xe).K = T.K := hK
  have wi : PI (X.tr pn xe) tg iter (fun σ H R => (iList T.K t1 σ H R ∨ iTup T.K t1 σ H R) ∨ iStr t1 σ H R) := by
    have := PI.or (PI.or (pi_list (X := X.tr pn xe) (tg := tg) p1) (pi_tup p1)) (pi_str p1)
    rw [hK'] at this
    exact this
  refine ⟨_, ps_setLc (X := X.tr pn xe) (i := i) (own := own) hc hN hy hyl hsw wi ok (g := canT T ws t) (tt := canE T eqR W0 c) (te := canE T (Rp T) W0 e) (fun s H C cl fp => ?_) (fun s H C cl fp => ?_) (fun s H C cl fp => ?_) hf, fun En σ H P ι F δ s R E post => ?_⟩
  · obtain ⟨g, p, d⟩ := hg s H C cl fp [] (fun _ _ => False)
    exact PG.weak p fun v σ H Q q => d.can q
  · obtain ⟨g, p, d⟩ := ht s H C cl fp
    exact PTs.weak p fun σ H Q q => d.can q
  · obtain ⟨g, p, d⟩ := he s H C cl fp [] (fun _ _ => False) W0 takes0
    exact PE.weak p fun σ H Q q => d.can q
  · have dl : DenG T (Rp T) W _ _ := den_lcA (T := T) (c := c) (e := e) (t := t) d1 hs
    refine dens_then dl R E post fun x v H1 ι1 F1 s1 g R1 E1 r1 post1 => ?_
    exact post1 _ H1 ι1 F1 (Grow.refl _ _) R1 (E1.set r1 i)
end
section
variable {δ : Env} {s : Sto}
@[simp] theorem dListR2_eq {f g : DE} : dListR2 f g δ s = (f δ s).bind fun x s1 => (g δ s1).bind fun y s2 => match x, y with
  | .int a, .int b => if 0 ≤ a ∧ a ≤ 1000 ∧ 0 ≤ b ∧ b ≤ 1000 then .ok (.lst (intsD a (b - a).toNat)) s2 else .stuck
  | _, _ => .stuck := rfl
@[simp] theorem sqD_tup {ys : List D} : sqD s (.tup ys) = some ys := rfl
@[simp] theorem sqD_lst {ys : List D} : sqD s (.lst ys) = some ys := rfl
@[simp] theorem sqD_loc {n : Nat} : sqD s (.loc n) = match s[n]? with
  | some (.lst xs) => some xs
  | _ => none := rfl
end
end Mp
/-! # MpR -/
namespace Mp
open PySem PySem.Spec PyProof.Rows L2
/-! ## a list, so many times, as a cell -/
def oMulC : DOp
  | x, .int k, s => match lsOf s x with
    | some xs => if xs.length * k.toNat ≤ lim ∧ -(2 ^ 62) ≤ k ∧ k < 2 ^ 62 then .ok (.loc s.length) (s ++ [.lst (List.replicate k.toNat xs).flatten]) else .stuck
    | none => .stuck
  | _, _, _ => .stuck
section
variable {T : Tb}
theorem do_mulC : DenOp T rMulA oMulC := by
  intro x y dx dy H P ι F s Q E R rx ry post
  unfold oMulC at post
  split at post
  · split at post
    · rename_i xs hx
      split at post
      · rename_i hl
        obtain ⟨p, vs, rfl, e1, e2⟩ := ls_of R rx hx
        unfold Rp at ry
        refine .inr ⟨p, _, vs, rfl, ry, e1, by omega, by omega, by rw [← e2.len]; exact lim_le hl.1, fun l hp => post_loc post R hp ?_⟩
        exact ⟨R.freeF hp, _, upd_same, (rps_rep e2 _).mono (grow_app _ _ _)⟩
      · exact post.elim
    · exact post.elim
  · exact post.elim
end
/-! ## a list of cells stays as it is from now on -/
def frzAll : List D → Sto → Option (List D × Sto)
  | [], s => some ([], s)
  | d :: r, s => match frzD s d with
    | some (d', s1) => match frzAll r s1 with
      | some (r', s2) => some (d' :: r', s2)
      | none => none
    | none => none
def sFrzN (i : Nat) : DS := fun δ s => match δ[i]? with
  | some (some (.lst ds)) => match frzAll ds s with
    | some (ds', s') => .nx (δ.set i (some (.lst ds'))) s'
    | none => .nx δ s
  | _ => .nx δ s
section
variable {T : Tb} {X : Cx}
theorem frzAll_ok {P : Hp} {ι : List Addr} {H : Hp} : ∀ {ds ds' : List D} {vs : List V} {F : Hp} {s s' : Sto}, RelH T P ι F s H → Rps T F ι ds vs → frzAll ds s = some (ds', s') → ∃ F', Grow F ι F' ι ∧ RelH T P ι F' s' H ∧ Rps T F' ι ds' vs
  | [], ds', vs, F, s, s', R, r, h => by
    unfold frzAll at h
    cases h
    exact ⟨F, Grow.refl _ _, R, r⟩
  | d :: ds, ds', vs, F, s, s', R, r, h => by
    unfold Rps at r
    obtain ⟨v, us, rfl, r1, r2⟩ := r
    unfold frzAll at h
    split at h
    · rename_i d' s1 h1
      split at h
      · rename_i r' s2 h2
        cases h
        obtain ⟨F1, g1, R1, q1⟩ := frz_ok R r1 h1
        obtain ⟨F2, g2, R2, q2⟩ := frzAll_ok R1 (r2.mono g1) h2
        refine ⟨F2, g1.trans g2, R2, ?_⟩
        unfold Rps
        exact ⟨v, us, rfl, q1.mono g2, q2⟩
      · cases h
    · cases h
theorem b_frzN {rest : List Stmt} {g : DS} (i : Nat) (h : PDb T X rest g) : PDb T X rest (sSeq (sFrzN i) g) := fun pn xe W tk ow => by
  obtain ⟨t1, p1, d1⟩ := h pn xe W tk ow
  refine ⟨t1, p1, fun En σ H P ι F δ s R E post => ?_⟩
  have same : sFrzN i δ s = .nx δ s → t1 En σ H := fun e => by
    unfold sSeq at post
    rw [e] at post
    exact d1 _ _ _ _ _ _ _ _ R E post
  cases q : δ[i]? with
  | none => exact same (by unfold sFrzN; rw [q])
  | some o =>
    cases o with
    | none => exact same (by unfold sFrzN; rw [q])
    | some d =>
      cases d with
      | lst ds =>
        cases hz : frzAll ds s with
        | none => exact same (by unfold sFrzN; rw [q]; dsimp only; rw [hz])
        | some z =>
          obtain ⟨ds', s'⟩ := z
          have e : sFrzN i δ s = .nx (δ.set i (some (.lst ds'))) s' := by unfold sFrzN; rw [q]; dsimp only; rw [hz]
          unfold sSeq at post
          rw [e] at post
          obtain ⟨v, e1, e2⟩ := E.at_ i _ q
          unfold Rp at e2
          obtain ⟨a, vs, rfl, h1, h2⟩ := e2
          obtain ⟨F', g', R', r'⟩ := frzAll_ok R h2 hz
          have rv : Rp T F' ι (.lst ds') (.ref a) := by
            unfold Rp
            exact ⟨a, vs, rfl, g'.1 _ _ h1, r'⟩
          have E' := (E.mono g').set rv i
          have hl := (List.getElem?_eq_some_iff.mp e1).1
          have es : σ.set i (some (.ref a)) = σ := by
            refine List.ext_getElem? fun j => ?_
            by_cases c : i = j
            · subst c; rw [List.getElem?_set_self hl, e1]
            · rw [List.getElem?_set_ne c]
          rw [es] at E'
          exact d1 _ _ _ _ _ _ _ _ R' E' (PostS.mono g' post)
      | _ => exact same (by unfold sFrzN; rw [q])
end
/-! ## for .. in zip(o, o2), o a list cell -/
section
variable {T : Tb}
theorem walksP_zip {P F : Hp} {ι : List Addr} {a b : Addr} {vs us : List V} {ds es : List D} (h : P a = some (.lst vs)) (h' : F b = some (.lst us)) (r : Rps T F ι ds vs) (r' : Rps T F ι es us) : WalksP T (Itz T.K a b) (zipD ds es) P F ι := by
  have w : L2.Walk (Itz T.K a b) (min vs.length us.length) (fun H => SqL T.K H a vs ∧ SqL T.K H b us) (YPair (fun i => vs[i]?) (fun i => us[i]?)) := walk_zip rfl
  unfold WalksP
  rw [zipD_len, r.len, r'.len]
  refine w.mono (fun H hF => ⟨SqL.of (hF.2 _ _ h), SqL.of (hF.1 _ _ h')⟩) fun i H x H' hi hF y => ?_
  obtain ⟨p, v, u, e1, e2, e3, e4, e5⟩ := y
  have hi1 : i < ds.length := by rw [r.len]; omega
  have hi2 : i < es.length := by rw [r'.len]; omega
  obtain ⟨d, hd⟩ := get_lt hi1
  obtain ⟨e, he⟩ := get_lt hi2
  obtain ⟨v', h1, h2⟩ := r.get hd
  obtain ⟨u', h3, h4⟩ := r'.get he
  have e4' : vs[i]? = some v := e4
  have e5' : us[i]? = some u := e5
  rw [e4'] at h1
  rw [e5'] at h3
  cases h1
  cases h3
  exact ⟨_, zipD_at hd he, .inr ⟨p, [v, u], [d, e], e1, e2, e3, rfl, .cons h2 (.cons h4 .nil)⟩⟩
def zRun (t : DTg) (body : DS) (δ : Env) (xs : List D) (s1 : Sto) : Out := match xs with
  | [.lst a, .lst b] => forL t body (zipD a b) δ s1
  | [.loc n, .lst b] => match s1[n]? with
    | some (.lst a) => (forL t body (zipD a b) δ (s1.set n .dead)).back n a
    | _ => .stuck
  | _ => .stuck
def sForZ (fa : DA) (t : DTg) (body : DS) : DS := fun δ s => (fa δ s).out δ fun xs s1 => zRun t body δ xs s1
theorem s_forZ {X : Cx} {e e2 : Expr} {p pos tpos fpos : Pos} {elts : List Expr} {kk : Nat} {body : List Stmt} {f : DA} {ws : List Nat} {t : DTg} {g : DS} (hm : X.mg "zip" = none) (ha : PDa T X [e, e2] f) (hg : PDg T X (.Tuple elts kk tpos) ws t) (hb : PDb T X body g) (hgl : Gl X "zip" := by rfl)
    (hs : starEach [e, e2] X.env = (false, eval e X.env) :: starEach [e2] X.env := by rfl) (hpl : (backTo pos (starEach [e2] X.env)).any (·.1) = false := by rfl) (hc : X.calm = true := by rfl) (hfs : ∀ x, foldedSetIterable (.Call (.Name "zip" p) [e, e2] [] pos) X.env x = pure x := by intro _; rfl) (hK : X.K = T.K := by rfl) :
    PDs T X (.For (.Tuple elts kk tpos) (.Call (.Name "zip" p) [e, e2] [] pos) body [] fpos) (sForZ f t g) := fun pn xe W tk ow => by
  obtain ⟨t1, p1, d1⟩ := ha pn xe W tk
  obtain ⟨g1, p2, d2⟩ := hg pn xe
  obtain ⟨tb, p3, d3⟩ := hb pn xe W tk ow
  have hK' : (X.tr pn xe).K = T.K := hK
  have wi := RZ.pi_zipA (X := X.tr pn xe) (p := p) (kk := kk) (tpos := tpos) (elts := elts) hgl hm p1 hs hpl
  rw [hK'] at wi
  refine ⟨_, ps_for (X := X.tr pn xe) ow hc wi p2 p3 hfs, fun En σ H P ι F δ s R E post => ?_⟩
  show t1 σ H _
  have post0 : PostS T P En W F ι ((f δ s).out δ fun xs s1 => zRun t g δ xs s1) := post
  refine d1 σ H P ι F δ s _ R E ?_
  cases e0 : f δ s with
  | stuck => rw [e0] at post0; exact post0.elim
  | exc k s1 =>
    rw [e0] at post0
    exact fun H' ι' F' g R' => post0 σ H' ι' F' g R' (E.mono g)
  | ok xs s1 =>
    rw [e0] at post0
    intro vs H1 ι1 F1 gr R1 r1
    have post1 : PostS T P En W F ι (zRun t g δ xs s1) := post0
    unfold zRun at post1
    split at post1
    · obtain ⟨v, u, rfl, h1, h2⟩ := rps2 r1.1
      unfold Rp at h1 h2
      obtain ⟨a, vs, rfl, h3, h4⟩ := h1
      obtain ⟨b, us, rfl, h5, h6⟩ := h2
      exact ⟨a, b, vs, us, rfl, .inl ⟨SqL.of (R1.sub _ _ h3), SqL.of (R1.sub _ _ h5), for_run d2 d3 ((walks_zip (SqL.of h3) (SqL.of h5) h4 h6).toP P) R1 (E.mono gr) (PostS.mono gr post1)⟩⟩
    · obtain ⟨v, u, rfl, h1, h2⟩ := rps2 r1.1
      unfold Rp at h1 h2
      obtain ⟨a, e1, rfl⟩ := h1
      obtain ⟨b, us, rfl, h5, h6⟩ := h2
      split at post1
      · rename_i as hs1
        obtain ⟨vs, q1, q2, q3, q4, R2⟩ := R1.hold hs1 e1
        exact ⟨a, b, vs, us, rfl, .inl ⟨SqL.of q1, SqL.of (R1.sub _ _ h5), for_run d2 d3 (walksP_zip (P := upd P a (.lst vs)) upd_same h5 q2 h6) R2 (E.mono gr) (posts_back q4 e1 q2 (PostS.mono gr post1))⟩⟩
      · exact post1.elim
    · exact post1.elim
end
section
variable {δ : Env} {s : Sto}
@[simp] theorem sForZ_eq {fa : DA} {t : DTg} {body : DS} : sForZ fa t body δ s = (fa δ s).out δ fun xs s1 => zRun t body δ xs s1 := rfl
theorem zRun_lst {t : DTg} {body : DS} {a b : List D} : zRun t body δ [.lst a, .lst b] s = forL t body (zipD a b) δ s := rfl
theorem zRun_loc {t : DTg} {body : DS} {a b : List D} {n : Nat} (h : s[n]? = some (.lst a)) : zRun t body δ [.loc n, .lst b] s = (forL t body (zipD a b) δ (s.set n .dead)).back n a := by
  unfold zRun
  dsimp only
  rw [h]
end
end Mp
/-! # MpLam -/
namespace Mp
open PySem PySem.Spec PyProof.Rows L2 LamX
/-! ## a lambda without parameters, handed to a def that calls it -/
section
variable {X : Cx} {pins : List (Addr × Obj)} {σ : L2.St} {H : Hp} {s : Shared}
/-- the lambda is made: the heap is as before, or one code object richer, told by the table -/
theorem lam_mk {c P : Addr} {ps : Array Value} {params : Arguments} {body : Expr} {scope : Scope} {pos : Pos} {E : Value → Shared → Prop} {Q : Value → Shared → Prop} (I : Inv X pins σ H s) (TB : TabB X.base X.mg c P) (hcode : X.env.code = .ref c)
    (hP : H P = some (.tbl ps)) (ht : TriplesOk ps.toList) (ha : ∀ (p : Pos) (cv : Value), codeAmong p ps.toList = some cv → ∃ c', cv = .ref c' ∧ H c' = some (CodeO c' (X.env.qual ++ "<lambda>")))
    (hdef : defaultsOf params X.env = ([], [])) (hfree : ∀ y ∈ scope.names, y.2 = .free → ∃ c, X.env.cells.lookup y.1 = some c)
    (h : ∀ (f c' : Addr) (pm ctv : Value) (H1 : Hp) (s' : Shared), Inv X pins σ H1 s' →
      ((H1 = H ∧ ∃ p : Pos, codeAmong p ps.toList = some (.ref c')) ∨ ∃ more : Array Value, H c' = none ∧ H1 = upd (upd H P (.tbl (ps ++ more))) c' (CodeO c' (X.env.qual ++ "<lambda>")) ∧ TriplesOk (ps ++ more).toList ∧ ∀ (p : Pos) (cv : Value), codeAmong p (ps ++ more).toList = some cv → codeAmong p ps.toList = some cv ∨ cv = .ref c') →
      s'.heap.get? f = some (PySem.W.kla_obj "<lambda>" (X.env.qual ++ "<lambda>") params body scope (cloFrom X.env.cells scope.names []) pm c' ctv) → H1 f = none → f ∉ frs X.stack → H1 c' = some (CodeO c' (X.env.qual ++ "<lambda>")) → Q (.ref f) s') :
    wpAny (model X.prog X.w) X.A (eval (.Lambda params body scope pos) X.env) Q E s := by
  have bP : s.heap.BuiltinsAt X.mg P := TB.bm.keeps I.bk
  have oP : s.heap.get? P = some { cls := .none, data := .fields ps } := I.hok P _ hP
  have far : ∀ f, s.heap.objs.size ≤ f → f ∉ frs X.stack := fun f hf z => by
    rcases List.mem_cons.mp (I.stkSub _ z) with e | e
    · have l := I.lt
      rw [← e] at l
      exact Nat.lt_irrefl _ (Nat.lt_of_lt_of_le l hf)
    · exact I.nofs hf e
  refine PySem.W.kla_eval hdef ?_
  cases hc : codeAmong pos ps.toList with
  | some cv =>
    obtain ⟨c', rfl, hco⟩ := ha pos cv hc
    refine PySem.W.kla_makeFunctionHit (mg := X.mg) (c := c) (P := P) (ps := ps) (closure_ok hfree) I.ok.glob (I.mod.glob.keeps I.bk) hcode (TB.code.keeps I.bk) oP ht hc bP fun ctv h' tk hx hsz => ?_
    exact h h'.objs.size c' ((X.mg "__name__").getD .none) ctv H _ (I.kept fun b o e => Heap.get?_push_of_some _ (hx b o e)) (.inl ⟨rfl, pos, hc⟩) (Heap.get?_push_size _ rfl) (I.hok.fresh hsz) (far _ hsz) hco
  | none =>
    refine PySem.W.kla_makeFunction (mg := X.mg) (c := c) (P := P) (ps := ps) (closure_ok hfree) I.ok.glob (I.mod.glob.keeps I.bk) hcode (TB.code.keeps I.bk) oP ht hc TB.gP bP fun c' ctv h' tk hx hge hlt hrec htb => ?_
    obtain ⟨c2, oc, vs, t, e2, hoc, hd, hv⟩ := hrec
    cases e2
    have hsz : s.heap.objs.size ≤ h'.objs.size := by omega
    have nC : H c' = none := I.hok.fresh hge
    have I1 := inv_table (t' := tk) (more := #[rawInt pos.line, rawInt pos.col, .ref c']) (h' := h'.push (PySem.W.kla_obj "<lambda>" (X.env.qual ++ "<lambda>") params body scope (cloFrom X.env.cells scope.names []) ((X.mg "__name__").getD .none) c' ctv)) I hP
      (fun b o hb e => Heap.get?_push_of_some _ (hx b o hb e)) (Heap.get?_push_of_some _ htb) hge ⟨oc, vs, t, Heap.get?_push_of_some _ hoc, hd, hv⟩
    have eL : (ps ++ #[rawInt pos.line, rawInt pos.col, .ref c']).toList = ps.toList ++ [rawInt pos.line, rawInt pos.col, .ref c'] := by simp
    have n1 : h'.objs.size ≠ c' := Nat.ne_of_gt hlt
    have n2 : h'.objs.size ≠ P := Nat.ne_of_gt (Nat.lt_of_lt_of_le (Heap.lt_size oP) hsz)
    refine h h'.objs.size c' ((X.mg "__name__").getD .none) ctv _ _ I1 (.inr ⟨_, nC, rfl, by rw [eL]; exact PySem.TriplesOk_snoc _ _ _ _ ht, fun p cv e => ?_⟩) (Heap.get?_push_size _ rfl) (by rw [upd_ne n1, upd_ne n2]; exact I.hok.fresh hsz) (far _ hsz) upd_same
    rw [eL] at e
    exact among_app _ ht e
end
/-! ### what the lambda has caught -/
def capD (δ : Env) : List D := δ.map fun o => o.getD .non
def capV (δ : Env) (σ : L2.St) : List V := List.zipWith (fun o u => match o with
  | some _ => u.getD .non
  | none => .non) δ σ
section
variable {T : Tb} {F : Hp} {ι : List Addr}
theorem cap_rps : ∀ {δ : Env} {σ : L2.St}, δ.length = σ.length → (∀ (i : Nat) d, δ[i]? = some (some d) → ∃ v, σ[i]? = some (some v) ∧ Rp T F ι d v) → Rps T F ι (capD δ) (capV δ σ)
  | [], [], _, _ => .nil
  | [], _ :: _, h, _ => by cases h
  | _ :: _, [], h, _ => by cases h
  | o :: δ, u :: σ, h, k => by
    have ih : Rps T F ι (capD δ) (capV δ σ) := cap_rps (by simpa using h) fun i d e => by
      obtain ⟨v, e1, e2⟩ := k (i + 1) d (by simpa using e)
      exact ⟨v, by simpa using e1, e2⟩
    cases o with
    | none => exact Rps.cons (d := .non) (v := .non) (by unfold Rp; rfl) ih
    | some d =>
      obtain ⟨v, e1, e2⟩ := k 0 d rfl
      have e1' : u = some v := by simpa using e1
      subst e1'
      exact Rps.cons e2 ih
theorem cap_env {F0 : Hp} {ι0 : List Addr} {δ : Env} {σ : L2.St} (E0 : REnv T F0 ι0 δ σ) (r : Rps T F ι (capD δ) (capV δ σ)) : REnv T F ι δ σ := by
  refine ⟨E0.len, fun i d h => ?_⟩
  obtain ⟨v, e1, _⟩ := E0.at_ i d h
  have e2 : (capD δ)[i]? = some d := by
    unfold capD
    rw [List.getElem?_map, h]
    rfl
  obtain ⟨w, e3, e4⟩ := r.get e2
  have e5 : (capV δ σ)[i]? = some v := by
    unfold capV
    rw [List.getElem?_zipWith, h, e1]
    rfl
  rw [e5] at e3
  cases e3
  exact ⟨v, e1, e4⟩
end
open Classical in
/-- x(), where d is what x holds -/
noncomputable def actD (i : Nat) (d : D) (call : Sto → Res D) : DE := fun δ s => if δ[i]? = some (some d) then call s else .stuck
section
variable {T : Tb} {X : Cx} {pins : List (Addr × Obj)} {σ : L2.St} {H : Hp} {s : Shared}
/-- x(), in the def that got the lambda, entered at s -/
theorem d_act {Eg : XK} {Ng : List Str} {qg : Str} {sg : Scope} {g f c' : Addr} {cdg pm ctv : Value} {params : Arguments} {body : Expr} {scope : Scope} {k i : Nat} {a : Str} {fb : DE} {F0 : Hp} {ι0 : List Addr} {δ : Env} {p1 p2 : Pos}
    (I : Inv X pins σ H s) (L : LamS X.env.scope scope) (hf : s.heap.get? f = some (PySem.W.kla_obj "<lambda>" (X.env.qual ++ "<lambda>") params body scope (cloFrom X.env.cells scope.names []) pm c' ctv)) (hfn : H f = none) (hfr : f ∉ frs X.stack)
    (hbind : bindArgs (PySem.W.kla_fn "<lambda>" (X.env.qual ++ "<lambda>") params body scope (cloFrom X.env.cells scope.names []) pm (.ref c') ctv) ⟨[], []⟩ = pure [])
    (hr : Room (k + 1) (X.A.deeper (envOfC qg sg s.heap.objs.size g cdg)))
    (hbody : ∀ (A : Around) (outer : List PySem.Env) (s : Shared) (H : Hp) (E : XK), Room k (A.deeper (lamEnv X scope s.heap.objs.size f c')) → PDe T (lamCx X A outer s H E scope f c') body fb)
    (E0 : REnv T F0 ι0 δ σ) (hN : Ng[i]? = some a) (hv : Vis sg a) (hd : (a == ("__debug__" : Str)) = false) (hcd : (a == ("__classdict__" : Str)) = false) :
    PDe T (cxOf (L2.CX X.prog X.w) X.prog X.w X.K X.mg X.base Ng qg sg g cdg X.A X.stack s H Eg) (.Call (.Name a p1) [] [] p2) (actD i (.fn f c' (X.env.qual ++ "<lambda>") (capV δ σ) (capD δ)) (fb δ)) := by
  intro pn xe W tk
  refine ⟨fun σZ HZ Q => σZ[i]? = some (some (.ref f)) ∧ HZ c' = some (CodeO c' (X.env.qual ++ "<lambda>")) ∧ ∃ P ι F st, RelH T P ι F st HZ ∧ REnv T F ι δ σ ∧ Post T P (Rp T) Q (fun c H' => W (.ref (T.ca c)) none σZ H') F ι (fb δ st), ⟨fun pinsZ sZ σZ HZ Q IZ h => ?_⟩, fun σZ HZ P ι F δZ st Q R E post => ?_⟩
  · obtain ⟨hs, hc, P, ι, F, st, R, E, post⟩ := h
    refine wpAny_Call_Name_kw (thn ((pe_var (pos := p1) (i := i) hN hv hd hcd).run pinsZ sZ σZ HZ (fun v H1 => v = .ref f ∧ H1 = HZ) IZ ⟨.ref f, hs, rfl, rfl⟩) fun u s1 ⟨v, H1, I1, r1, q1⟩ => ?_)
    obtain ⟨ev, eH⟩ := q1
    subst ev
    rw [eH] at I1
    obtain rfl : u = Value.ref f := r1
    have of1 : s1.heap.get? f = some (PySem.W.kla_obj "<lambda>" (X.env.qual ++ "<lambda>") params body scope (cloFrom X.env.cells scope.names []) pm c' ctv) := I1.base.keep f _ hf hfn hfr (fun z => nomatch (show f ∈ ([] : List Addr) from z))
    refine PySem.W.callWith_F0 ⟨_, _, _, _, of1⟩ ?_
    have un : Un (frs X.stack) [] H HZ s.heap s1.heap := I1.base
    obtain ⟨⟨oc, vs, t, hoc, hdc, hvc⟩, _, _⟩ := I1.hok c' _ hc
    have rc : codeAny (model X.prog X.w) (X.A.deeper (envOfC qg sg s.heap.objs.size g cdg)) (.call (.ref f) ⟨[], []⟩) (CR (L2.CX X.prog X.w) (envOfC qg sg s.heap.objs.size g cdg :: X.stack) X.prog X.w HZ s1 Q (fun cls d H' => W cls d σZ H')) s1 := by
      refine PySem.W.kla_callFunE hr.depth of1 rfl L.co L.gen rfl ⟨c', oc, vs, t, rfl, hoc, hdc, hvc⟩ ?_
      rw [hbind]
      refine wpAny_pure (wpAny_newFunctionEnv (fun y hy => (L.own y hy).2) (fun y hy => absurd hy (by simp)) (fun h₁ hns hsb => ⟨I1.nolimit.fresh _ hsb, ?_⟩) L.kind)
      show codeAny _ _ (.expr body (lamEnv X scope s1.heap.objs.size f c')) _ _
      have kp : ∀ b o, s1.heap.get? b = some o → h₁.get? b = some o := fun b o e => hsb.extBut b o (Nat.ne_of_lt (Heap.lt_size e)) (Heap.get?_push_of_some _ e)
      have J : Inv (lamCx X (X.A.deeper (envOfC qg sg s.heap.objs.size g cdg)) (envOfC qg sg s.heap.objs.size g cdg :: X.stack) s1 HZ (fun cls d H' => W cls d σZ H') scope f c') [] σ HZ { s1 with heap := h₁, toks := s1.toks + ([] : List (Str × Value)).length } :=
        lam_start2 I L I1.env0 hr.hd un hns kp
      have tkL : Takes (lamCx X (X.A.deeper (envOfC qg sg s.heap.objs.size g cdg)) (envOfC qg sg s.heap.objs.size g cdg :: X.stack) s1 HZ (fun cls d H' => W cls d σZ H') scope f c') (fun cls d _ H' => W cls d σZ H') := takes_of rfl rfl rfl rfl
      obtain ⟨tb, pb, db⟩ := hbody _ _ s1 HZ (fun cls d H' => W cls d σZ H') (hr.deeper _) _ _ _ tkL
      refine PySem.W.kla_codeExpr (wpAny_mono (pb.run [] _ _ HZ Q J (db _ _ _ _ _ _ _ _ R E post)) (fun v s' hq => ?_) fun e s' hq => hq)
      obtain ⟨w', H', J', rv, q⟩ := hq
      exact ⟨w', H', J'.os, J'.bare, J'.base, J'.hok, rv, q⟩
    refine wpAny_call (codeAny_mono rc fun r s' hq => ?_)
    cases r with
    | error e => exact passAt tk σZ pinsZ HZ s1 e s' I1 hq
    | ok fl =>
      cases fl with
      | ret u => exact I1.after hq
      | next => exact False.elim hq
      | brk => exact False.elim hq
      | cont => exact False.elim hq
  · unfold actD at post
    split at post
    · rename_i hi
      obtain ⟨v, e1, e2⟩ := E.at_ i _ hi
      unfold Rp at e2
      obtain ⟨rfl, e3, e4⟩ := e2
      exact ⟨e1, R.sub _ _ e3, P, ι, F, st, R, cap_env E0 e4, post⟩
    · exact post.elim
/-! ### a def that calls what it is handed -/
structure ClL (T : Tb) (P : Program) (w : World) (mg : Str → Option Value) (base : Heap) (x : Str) (k n : Nat) (gd : DE → DS) : Prop where
  ex : ∃ (g : Addr) (a : Str) (Ng : List Str) (pg : Arguments) (bg : List Stmt) (sg : Scope) (fd : FuncData), mg x = some (.ref g) ∧ FunD T.K x x pg bg sg [] [] g fd ∧ L2.Binds T.K fd [a] [] ∧ FnScope Ng [a] sg ∧ Ng[0]? = some a ∧ Vis sg a ∧ (a == ("__debug__" : Str)) = false ∧ (a == ("__classdict__" : Str)) = false ∧ Ng.length = n ∧
    ∀ (cdv : Value) (A : Around) (outer : List PySem.Env) (s : Shared) (H : Hp) (E : XK) (fc : DE), Room k (A.deeper (envOfC x sg s.heap.objs.size g cdv)) →
      (∀ p1 p2, PDe T (cxOf (L2.CX P w) P w T.K mg base Ng x sg g cdv A outer s H E) (.Call (.Name a p1) [] [] p2) fc) → PDb T (cxOf (L2.CX P w) P w T.K mg base Ng x sg g cdv A outer s H E) bg (gd fc)
noncomputable def lamF (n : Nat) (gd : DE → DS) (d : D) (call : Sto → Res D) : Sto → Res D := fun s => finO s.length (gd (actD 0 d call) (some d :: List.replicate (n - 1) none) s)
open Classical in
/-- x(lambda: ..): the lambda's own addresses don't matter -/
noncomputable def dLam (kt n : Nat) (gd : DE → DS) (fb : DE) : DE := fun δ s =>
  if s[kt]? = some (.tbl kt) ∧ ∀ a c q vs, lamF n gd (.fn a c q vs (capD δ)) (fb δ) s = lamF n gd (.fn 0 0 "" [] (capD δ)) (fb δ) s then lamF n gd (.fn 0 0 "" [] (capD δ)) (fb δ) s else .stuck
theorem d_lamcall {x : Str} {c : Addr} {k n : Nat} {params : Arguments} {body : Expr} {scope : Scope} {p lpos pos : Pos} {gd : DE → DS} {fb : DE} (kt : Nat) (C : ClL T X.prog X.w X.mg X.base x (k + 1) n gd)
    (TB : TabB X.base X.mg c (T.tb kt).1) (hq : (T.tb kt).2 = X.env.qual ++ "<lambda>") (hcode : X.env.code = .ref c) (hr : Room (k + 2) X.A) (L : LamS X.env.scope scope)
    (hbody : ∀ (A : Around) (outer : List PySem.Env) (s : Shared) (H : Hp) (E : XK) (f c' : Addr), Room k (A.deeper (lamEnv X scope s.heap.objs.size f c')) → PDe T (lamCx X A outer s H E scope f c') body fb)
    (hdef : defaultsOf params X.env = ([], []) := by rfl) (hbind : ∀ (q : Str) (cl : List (Str × Addr)) (pm cv ctv : Value), bindArgs (PySem.W.kla_fn "<lambda>" q params body scope cl pm cv ctv) ⟨[], []⟩ = pure [] := by intros; rfl)
    (hg : Gl X x := by rfl) (hK : X.K = T.K := by rfl) (hdb : (x == ("__debug__" : Str)) = false := by decide) :
    PDe T X (.Call (.Name x p) [.Lambda params body scope lpos] [] pos) (dLam kt n gd fb) := by
  intro pn xe W tk
  refine ⟨fun σ H Q => ∃ P ι F δ st, RelH T P ι F st H ∧ REnv T F ι δ σ ∧ Post T P (Rp T) Q (fun c H' => W (.ref (T.ca c)) none σ H') F ι (dLam kt n gd fb δ st), ⟨fun pins s σ H Q I h => ?_⟩, fun σ H P ι F δ st Q R E post => ⟨P, ι, F, δ, st, R, E, post⟩⟩
  obtain ⟨P, ι, F, δ, st, R, E, post⟩ := h
  unfold dLam at post
  split at post
  rotate_left
  · exact post.elim
  rename_i hc
  obtain ⟨hc1, hc2⟩ := hc
  obtain ⟨g, a, Ng, pg, bg, sg, fd, hm, FD, hb, Sg, hNg, hva, hda, hca, hn, hG⟩ := C.ex
  rw [← hK] at FD hb hG
  obtain ⟨oc, od, dV, kV, doc, pm, an, cdv, ct, osl, rfl, lk, hcg, _, _⟩ := FD.ex
  -- the table's cell
  have hlen : kt < st.length := (List.getElem?_eq_some_iff.mp hc1).1
  obtain ⟨ap, hi⟩ : ∃ ap, ι[kt]? = some ap := ⟨_, List.getElem?_eq_getElem (by rw [R.len]; exact hlen)⟩
  obtain ⟨hF, hap, ps, hP, ht, ha⟩ := R.cell kt _ ap hc1 hi
  subst hap
  rw [hq] at ha
  refine wpAny_Call_Name_kw (ld_glob (X := X.tr pn xe) I hg hm ?_ hdb)
  refine PySem.W.callWith_K (h₀ := X.base) I.ok.mod.kin FD.kp ?_ (by rfl) (by rfl)
  show wpAny _ _ (spliced ((false, eval (.Lambda params body scope lpos) X.env) :: backTo pos (starEach [] X.env))) _ _ s
  refine Calls.spliced_cons (lam_mk (X := X.tr pn xe) I TB hcode hP ht (fun p cv e => let ⟨c', e1, e2⟩ := ha p cv e; ⟨c', e1, R.sub _ _ e2⟩) hdef (LamS.has (X := X.tr pn xe) L I.ok) fun f c' pm' ctv H1 s' I1 hH hf hfn hfr hco => ?_)
  refine Calls.spliced_nil ⟨I1.kIn, ?_⟩
  obtain ⟨F1, g1, R1, hF1⟩ : ∃ F1, Grow F ι F1 ι ∧ RelH T P ι F1 st H1 ∧ F1 c' = some (CodeO c' (X.env.qual ++ "<lambda>")) := by
    rcases hH with ⟨e, q, hq'⟩ | ⟨more, nC, e, ht', ha'⟩
    · obtain ⟨c2, e1, e2⟩ := ha q _ hq'
      cases e1
      exact ⟨F, Grow.refl _ _, by rw [e]; exact R, e2⟩
    · have nPc : c' ≠ (T.tb kt).1 := fun z => by
        rw [z, hP] at nC
        cases nC
      have R2 := R.new nC (CodeO c' (X.env.qual ++ "<lambda>"))
      have g2 : Grow F ι (upd F c' (CodeO c' (X.env.qual ++ "<lambda>"))) ι := grow_new (R.freeF nC) _
      have cell : CellAt T ι (upd F c' (CodeO c' (X.env.qual ++ "<lambda>"))) (upd (upd H c' (CodeO c' (X.env.qual ++ "<lambda>"))) (T.tb kt).1 (.tbl (ps ++ more))) (T.tb kt).1 (.tbl kt) := by
        refine ⟨by rw [upd_ne (Ne.symm nPc)]; exact hF, rfl, _, upd_same, ht', fun p cv z => ?_⟩
        rw [hq]
        rcases ha' p cv z with z | z
        · obtain ⟨c2, e1, e2⟩ := ha p cv z
          exact ⟨c2, e1, g2.1 _ _ e2⟩
        · exact ⟨c', z, upd_same⟩
      have R3 := R2.setC hc1 rfl hi cell
      have es : st.set kt (.tbl kt) = st := by
        apply List.ext_getElem?
        intro i
        by_cases c : kt = i
        · subst c
          rw [List.getElem?_set_self hlen, hc1]
        · rw [List.getElem?_set_ne c]
      have eH : upd (upd H c' (CodeO c' (X.env.qual ++ "<lambda>"))) (T.tb kt).1 (.tbl (ps ++ more)) = H1 := by
        rw [e]
        funext b
        unfold upd
        by_cases c1 : b = c'
        · subst c1
          rw [if_neg nPc, if_pos rfl, if_pos rfl]
        · rw [if_neg c1, if_neg c1]
      rw [es, eH] at R3
      exact ⟨_, g2, R3, upd_same⟩
  have rc : codeAny (model X.prog X.w) X.A (.call (.ref g) ⟨[.ref f], []⟩) (CR (L2.CX X.prog X.w) X.stack X.prog X.w H1 s' Q (fun cls d H' => W cls d σ H')) s' := by
    refine run_ofS (N := Ng) (ps := [a]) (us := [.ref f]) (vs := [.ref f]) lk hcg Sg hr I1.env0 (hb s' [.ref f] I1.kIn rfl) (.cons rfl .nil) rfl fun hr' => ?_
    have hcall : ∀ p1 p2, PDe T (cxOf (L2.CX X.prog X.w) X.prog X.w X.K X.mg X.base Ng x sg g cdv X.A X.stack s' H1 (fun cls d H' => W cls d σ H')) (.Call (.Name a p1) [] [] p2) (actD 0 (.fn f c' (X.env.qual ++ "<lambda>") (capV δ σ) (capD δ)) (fb δ)) := fun p1 p2 =>
      d_act (X := X.tr pn xe) (k := k) I1 L hf hfn hfr (hbind _ _ _ _ _) hr' (fun A outer s H E hr2 => hbody A outer s H E f c' hr2) (E.mono g1) hNg hva hda hca
    have tkZ : Takes (cxOf (L2.CX X.prog X.w) X.prog X.w X.K X.mg X.base Ng x sg g cdv X.A X.stack s' H1 (fun cls d H' => W cls d σ H')) (fun cls d _ H' => W cls d σ H') := takes_of rfl rfl rfl rfl
    obtain ⟨t', pt, dt⟩ := hG cdv X.A X.stack s' H1 (fun cls d H' => W cls d σ H') _ hr' hcall _ _ _ tkZ (passes_of rfl)
    subst hn
    have r0 : Rps T F1 ι [D.fn f c' (X.env.qual ++ "<lambda>") (capV δ σ) (capD δ)] [V.ref f] := .cons (by
      unfold Rp
      exact ⟨rfl, hF1, cap_rps E.len (E.mono g1).at_⟩) .nil
    have e0 : REnv T F1 ι (some (D.fn f c' (X.env.qual ++ "<lambda>") (capV δ σ) (capD δ)) :: List.replicate (Ng.length - 1) none) (L2.start Ng [.ref f]) := start_env (N := Ng) r0 (n := 1) rfl
    rw [← hc2 f c' (X.env.qual ++ "<lambda>") (capV δ σ)] at post
    have post1 := post.mono g1
    exact ⟨t', pt, dt _ _ _ _ _ _ _ _ R1 e0 (fin_ok (fun _ _ _ _ h => h) R1 post1)⟩
  refine wpAny_call (codeAny_mono rc fun r s2 hq => ?_)
  cases r with
  | error e => exact passAt tk σ pins H1 s' e s2 I1 hq
  | ok fl =>
    cases fl with
    | ret u => exact I1.after hq
    | next => exact False.elim hq
    | brk => exact False.elim hq
    | cont => exact False.elim hq
end
end Mp
/-! # MpLem -/
namespace Mp
open PySem PySem.Spec L2 PyProof.Rows
/-! ## the head and the end of a law with lambdas -/
theorem ClL.up {T : Tb} {P : Program} {w : World} {mg : Str → Option Value} {base : Heap} {x : Str} {j k n : Nat} {gd : DE → DS} (c : ClL T P w mg base x j n gd) (h : j ≤ k) : ClL T P w mg base x k n gd := by
  obtain ⟨g, a, Ng, pg, bg, sg, fd, h1, h2, h3, h4, h5, h6, h7, h8, h9, h10⟩ := c.ex
  exact ⟨g, a, Ng, pg, bg, sg, fd, h1, h2, h3, h4, h5, h6, h7, h8, h9, fun cdv A outer s H E fc hr hc => h10 cdv A outer s H E fc (hr.mono h) hc⟩
section
variable {T : Tb} {P : Program} {w : World} {mg : Str → Option Value} {base : Heap}
/-- a def with a lambda: its code object is the one that stands in K -/
theorem fn_dL {x qual : Str} {params : Arguments} {body : List Stmt} {scope : Scope} {dvs : List V} {kws : List (Str × V)} {p0 : He.Defn} {fd : FuncData} {N ps : List Str} {k : Nat} {g : DS} (F : FunD T.K x qual params body scope dvs kws (He.fAd T.K p0) fd) (Sc : FnScope N ps scope)
    (h : ∀ (cdv : Value) (A : Around) (outer : List PySem.Env) (s : Shared) (H : Hp) (E : XK), Room k (A.deeper (envOfC qual scope s.heap.objs.size (He.fAd T.K p0) cdv)) → cdv = .ref (He.codeOf T.K p0) → PDb T (cxOf (L2.CX P w) P w T.K mg base N qual scope (He.fAd T.K p0) cdv A outer s H E) body g) :
    FnOk P w T.K mg base (L2.CX P w) (k + 1) (He.fAd T.K p0) fd ps (spD T ps.length (mkF N.length ps.length g)) := by
  obtain ⟨oc, od, dV, kV, doc, pm, an, cdv, ct, osl, rfl, lk, hcd, _, _⟩ := F.ex
  obtain ⟨c0, ec⟩ := He.codeIn_ref hcd
  have e0 : cdv = .ref (He.codeOf T.K p0) := by
    rw [He.codeOf_eq lk (c := c0) ec]
    exact ec
  refine fn_of lk hcd Sc (fun vs H Q E h => h.1) fun A outer s H vs Q E hr sp => ?_
  obtain ⟨hl, P0, ι, F0, st, ds, R, r, post⟩ := sp
  have tk : Takes (cxOf (L2.CX P w) P w T.K mg base N qual scope (He.fAd T.K p0) cdv A outer s H E) (fun cls d _ H => E cls d H) := takes_of rfl rfl rfl rfl
  obtain ⟨t, p, d⟩ := h cdv A outer s H E hr e0 _ _ _ tk (passes_of rfl)
  refine ⟨t, p, ?_⟩
  unfold mkF at post
  split at post
  · rename_i hd
    exact d _ _ _ _ _ _ _ _ R (start_env r hd) (fin_ok (fun _ _ _ _ h => h) R post)
  · exact post.elim
end
/-! ### the hook -/
structure SaysL (fa : List He.Fa) (fn : List He.DefD) (tf : List He.Defn) (ex : PySem.W.Frag → Bool) (h : Heap) (K : PySem.W.Frag) : Prop where
  d : He.SaysD fa fn K
  more : ex K = true
  nd : (tf.map fun p => (He.cT K p).2).Nodup
  hd : ∀ p ∈ tf, PySem.W.codeHdIn K (He.cT K p).1 (He.cT K p).2 = true
  out : ∀ p ∈ tf, K.lookup (He.cT K p).2 = none
  empty : ∀ p ∈ tf, h.get? (He.cT K p).2 = some { cls := .none, data := .fields #[] }
def exL (tf : List He.Defn) (ex : PySem.W.Frag → Bool) (K : PySem.W.Frag) : Bool := ex K && decide ((tf.map fun p => (He.cT K p).2).Nodup)
abbrev AlL : Type := He.AlX
def obsLG (n : Nat) (fa : List He.Fa) (fn : List He.DefD) (tf : List He.Defn) (ex : PySem.W.Frag → Bool) (g : Addr → Option Obj) : AlL := He.obsX n fa fn [] tf (exL tf ex) g
def hookL (n : Nat) (fa : List He.Fa) (fn : List He.DefD) (tf : List He.Defn) (ex : PySem.W.Frag → Bool) : PySem.W.Hook where
  α := AlL
  obs := fun s => obsLG n fa fn tf ex s.heap.get?
  val := fun w => He.valX fn [] w
  says := fun _ h => ∃ K : PySem.W.Frag, K.In h ∧ SaysL fa fn tf ex h K
  of := fun w h e => by
    have c := He.saysX_of (w := w) e
    obtain ⟨h1, h2⟩ := He.ba c.more
    exact ⟨_, He.frT_in, c.t.d, h1, of_decide_eq_true h2, c.hd, c.out, c.empty⟩
  keeps := fun _ _ _ ⟨K, hK, c⟩ k => ⟨K, PySem.W.Frag.In.keeps hK k, c.d, c.more, c.nd, c.hd, c.out, fun p hp => k _ _ (c.empty p hp)⟩
theorem obsLG_eq {n : Nat} {fa : List He.Fa} {fn : List He.DefD} {tf : List He.Defn} {ex : PySem.W.Frag → Bool} {g : Addr → Option Obj} {s : Shared} (h : ∀ a, g a = s.heap.get? a) : obsLG n fa fn tf ex g = (hookL n fa fn tf ex).obs s := by
  have e : g = s.heap.get? := funext h
  rw [e] <;> rfl
/-! ### the end -/
def tbls (n : Nat) : Sto := (List.range n).map Cell.tbl
theorem tbls_at {n i : Nat} {c : Cell} (h : (tbls n)[i]? = some c) : i < n ∧ c = .tbl i := by
  unfold tbls at h
  rw [List.getElem?_map] at h
  by_cases c1 : i < n
  · rw [List.getElem?_range c1] at h
    exact ⟨c1, (Option.some.inj h).symm⟩
  · rw [List.getElem?_eq_none (by simpa using c1)] at h
    cases h
theorem law_endL {T : Tb} {n : Nat} {φ : List D → Sto → Res D} {H : Hp} {a : Addr} {ns : List Int} (hT : ∀ i, i < n → H (T.tb i).1 = some (.tbl #[])) (nd : ∀ i j, i < n → j < n → (T.tb i).1 = (T.tb j).1 → i = j) (hS : SqL T.K H a (ns.map V.int)) (h : ∃ s', φ [.scr ns] (tbls n) = .ok (.bl true) s') :
    spD T 1 φ [.ref a] H (fun v _ => v = .bl true) fun _ _ _ => False := by
  classical
  have isT : ∀ b, (∃ i, i < n ∧ b = (T.tb i).1) → H b = some (.tbl #[]) := fun b ⟨i, hi, e⟩ => by rw [e]; exact hT i hi
  let F0 : Hp := fun b => if ∃ i, i < n ∧ b = (T.tb i).1 then none else H b
  have li : ∀ {m : Nat} {b : Addr}, ((List.range n).map fun i => (T.tb i).1)[m]? = some b → m < n ∧ b = (T.tb m).1 := fun {m b} h => by
    rw [List.getElem?_map] at h
    by_cases c1 : m < n
    · rw [List.getElem?_range c1] at h
      exact ⟨c1, (Option.some.inj h).symm⟩
    · rw [List.getElem?_eq_none (by simpa using c1)] at h
      cases h
  have R : RelH T (fun _ => none) ((List.range n).map fun i => (T.tb i).1) F0 (tbls n) H := by
    refine ⟨fun b o h => ?_, fun _ _ h => (by cases h), fun _ _ h => (by cases h), by simp [tbls], fun m c b h1 h2 => ?_, fun _ _ _ _ _ _ => rfl, fun m k c c' b h1 h2 _ _ h3 h4 => ?_⟩
    · show H b = some o
      have h' : (if ∃ i, i < n ∧ b = (T.tb i).1 then none else H b) = some o := h
      split at h'
      · cases h'
      · exact h'
    · obtain ⟨hm, rfl⟩ := tbls_at h1
      obtain ⟨_, rfl⟩ := li h2
      refine ⟨if_pos ⟨m, hm, rfl⟩, rfl, #[], hT m hm, True.intro, fun pos cv z => ?_⟩
      have z : codeAmong pos [] = some cv := z
      simp [codeAmong] at z
    · obtain ⟨hm, _⟩ := tbls_at h1
      obtain ⟨hk, _⟩ := tbls_at h2
      obtain ⟨_, e1⟩ := li h3
      obtain ⟨_, e2⟩ := li h4
      exact nd m k hm hk (by rw [← e1, ← e2])
  have S0 : SqL T.K F0 a (ns.map V.int) := by
    rcases hS with h | h
    · have key : ∀ {o : HO}, H a = some o → (∀ ps, o ≠ .tbl ps) → F0 a = some o := fun {o} e ne => by
        have q : ¬ ∃ i, i < n ∧ a = (T.tb i).1 := fun z => by
          have := isT a z
          rw [e] at this
          exact ne _ (Option.some.inj this)
        exact (if_neg q).trans e
      rcases h with h | ⟨o, h⟩
      · exact .inl (.inl (key h fun ps z => by cases z))
      · exact .inl (.inr ⟨o, key h fun ps z => by cases z⟩)
    · exact .inr h
  obtain ⟨s', h⟩ := h
  refine ⟨rfl, fun _ => none, _, F0, tbls n, [.scr ns], R, .cons (by unfold Rp; exact ⟨a, rfl, S0⟩) .nil, ?_⟩
  rw [h]
  intro v H' ι' F' g R r
  unfold Rp at r
  exact r
theorem law_walksL {l : PySem.W.OpenLaw} {k : Nat} {q : Program} {lo : List Str} {XP : (Str → Option Value) → Heap → Prop} {YP : World → Heap → Prop} {d : DefRec} {x : Str} (hm : l.most = some 63) (hdf : d.params.defaults = []) (room : Room k callerA)
    (F : ∀ (w : World) (mg : Str → Option Value) (fa : Addr) (h : Heap), YP w h → h.Ns mainGlobals mg → mg d.name = some (.ref fa) →
      ∃ (T : Tb) (fa' : List He.Fa) (fn : List He.DefD) (tf : List He.Defn) (ex : PySem.W.Frag → Bool) (fd : FuncData) (φ : List D → Sto → Res D), T.K.In h ∧ SaysL fa' fn tf ex h T.K ∧ (∀ i, i < tf.length → ∃ p, tf[i]? = some p ∧ (T.tb i).1 = (He.cT T.K p).2) ∧ (∀ (s : Shared) (u : Value), BindsTo s fd ⟨[u], []⟩ [(x, u)]) ∧
        (∀ ns : List Int, ns.length ≤ 63 → ∃ s', φ [.scr ns] (tbls tf.length) = .ok (.bl true) s') ∧
        ∀ base : Heap, T.K.In base → base.Ns mainGlobals mg → (∀ p ∈ tf, LamX.TabB base mg (He.cT T.K p).1 (He.cT T.K p).2) → FnOk l.prog w T.K mg base (L2.CX l.prog w) k fa fd [x] (spD T 1 φ)) :
    PySem.W.WalkO q lo XP YP l.row.toRowW d [] (fun f vs => PySem.call f vs) := by
  refine LamX.walk_ofTsE (l := l) (n := 63) (k := k) (x := x) (CX := fun w => L2.CX l.prog w) hm (by rw [sizeLine_eq]; decide) hdf room (fun w mg fa h Y G hmg => ?_) fun w H s e s' z => cx_none z
  obtain ⟨T, fa', fn, tf, ex, fd, φ, KX, c, ht, bi, pr, fn'⟩ := F w mg fa h Y G hmg
  have addr : ∀ i, i < tf.length → ∃ p ∈ tf, (T.tb i).1 = (He.cT T.K p).2 := fun i hi => by
    obtain ⟨p, e1, e2⟩ := ht i hi
    exact ⟨p, List.mem_of_getElem? e1, e2⟩
  refine ⟨T.K, KX, fd, tf.map (He.cT T.K), spD T 1 φ, fun p hp => ?_, fun p hp => ?_, fun p hp => ?_, bi, fun H a ns hl _ hH hS => ?_, fun base X G tbs => ?_⟩
  · obtain ⟨z, hz, rfl⟩ := List.mem_map.mp hp
    exact c.empty z hz
  · obtain ⟨z, hz, rfl⟩ := List.mem_map.mp hp
    exact c.out z hz
  · obtain ⟨z, hz, rfl⟩ := List.mem_map.mp hp
    exact PySem.W.codeHd_of_K KX (c.hd z hz)
  · refine law_endL (fun i hi => ?_) (fun i j hi hj e => ?_) hS (pr ns hl)
    · obtain ⟨p, hp, e⟩ := addr i hi
      rw [e]
      exact hH _ (List.mem_map.mpr ⟨p, hp, rfl⟩)
    · obtain ⟨p, e1, e2⟩ := ht i hi
      obtain ⟨p', e3, e4⟩ := ht j hj
      have h1 : (tf.map fun p => (He.cT T.K p).2)[i]? = some (T.tb i).1 := by rw [List.getElem?_map, e1, e2]; rfl
      have h2 : (tf.map fun p => (He.cT T.K p).2)[j]? = some (T.tb i).1 := by rw [List.getElem?_map, e3, e, e4]; rfl
      have l1 : i < (tf.map fun p => (He.cT T.K p).2).length := by rw [List.length_map]; exact hi
      exact (List.getElem?_inj l1 c.nd).mp (h1.trans h2.symm)
  · exact fn' base X G fun p hp => tbs _ (List.mem_map.mpr ⟨p, hp, rfl⟩)
/-! ### what the def that got the lambda makes of it -/
theorem actD_eq {i : Nat} {d : D} {call : Sto → Res D} {δ : Env} {s : Sto} (h : δ[i]? = some (some d)) : actD i d call δ s = call s := if_pos h
theorem dLam_ok {kt n : Nat} {gd : DE → DS} {fb : DE} {δ : Env} {s : Sto} {r : Res D} (h : s[kt]? = some (.tbl kt)) (hr : ∀ d, lamF n gd d (fb δ) s = r) : dLam kt n gd fb δ s = r := by
  unfold dLam
  rw [if_pos ⟨h, fun a c q vs => (hr _).trans (hr _).symm⟩]
  exact hr _
end Mp
/-! # MpInD -/
namespace PySem.SeqAt
open AutoSeq1 (wpAny_loadPart')
open MeetsSeq MeetsSeq2 MeetsSeq3 SeqRoads2
theorem mp_dict_str (l : Addr) (o : Obj) (hc : o.cls = .type "dict") (b : Str) (u : Tok) :
    Meets (Builtin.«dict.__eq__» ⟨[.ref l, .str b u], []⟩) (fun _ R s => s.heap.get? l = some o ∧ R (.ok (.ret .notImplemented)) s) :=
  .of_wp fun prog w A R s h => by
    obtain ⟨hp, g, d, tk, os⟩ := s; obtain ⟨hl, h⟩ := h
    have f1 := F.sub_str_dict
    obtain ⟨oc, od, odt, osl⟩ := o
    simp only at hc
    subst hc
    wp_walk using wpAny_loadPart' hl
    exact ⟨_, rfl, h⟩
theorem mp_str_dict (l : Addr) (od : Option Addr) (es : Array DictEntry) (ep : Nat) (osl : Array (Option Value)) (b : Str) (u : Tok) :
    Meets (Builtin.«str.__eq__» ⟨[.str b u, .ref l], []⟩) (fun _ R s => s.heap.get? l = some ⟨.type "dict", od, .dict es ep, osl⟩ ∧ R (.ok (.ret .notImplemented)) s) :=
  .of_wp fun prog w A R s h => by
    obtain ⟨hp, g, d, tk, os⟩ := s; obtain ⟨hl, h⟩ := h
    have f1 := F.sub_dict_str
    wp_walk using wpAny_loadPart' hl, wpAny_load hl
    exact ⟨_, rfl, h⟩
theorem mp_eq_sd {A : Around} {s : Shared} {l : Addr} {o : Obj} (b : Str) (u : Tok) {es : Array DictEntry} {ep : Nat} (ho : s.heap.get? l = some o) (hc : o.cls = .type "dict") (hd : o.data = .dict es ep) (hu : A.units < cLine) : EqAt A s (.str b u) (.ref l) false := fun prog w E Q h => by
  obtain ⟨oc, od, odt, osl⟩ := o
  simp only at hc hd
  subst hc hd
  unfold eqBool
  refine wpAny_holding ?_
  refine wpAny_ite_split (fun hab => absurd (eq_of_beq hab) nofun) (fun _ => ?_)
  refine wpAny_bind (rc_eq_decline_or (k := false) (typeIs_str s b u) ⟨_, ho, rfl⟩ (by decide) F.sub_dict_str F.slot_str_eq F.slot_dict_eq_refl
    (fun _ hq => call_meets F.slot_str_eq (typeIs_str s b u) F.entry_str_eq (F.args_str_eq_2 _ _) (mp_str_dict l od es ep osl b u) ⟨ho, hq⟩)
    (fun _ hq => call_meets F.slot_dict_eq_refl ⟨_, ho, rfl⟩ F.entry_dict_eq (F.args_dict_eq_2 _ _) (mp_dict_str l _ rfl b u) ⟨ho, hq⟩)
    (fun _ hq => wpAny_of_eq (rfl : isSame (.str b u) (.ref l) = pure false) hq) (.inr hu) (wpAny_truthy_bool h))
end PySem.SeqAt
namespace Mp
open PySem PySem.Spec PyProof.Rows L2
/-! ## a dict among texts -/
def rInY (K : PySem.W.Frag) (neg : Bool) : R2 := fun x y H Q => ∃ (d : Addr) (kvs : List (Key × V)) (t : Addr) (ys : List Str), x = .ref d ∧ Rd H d (.dK kvs) ∧ y = .ref t ∧ SqT K H t (ys.map V.str) ∧ Q (.bl neg) H
theorem op_inY {X : Cx} (neg : Bool) (hu : X.A.units + 64 < cLine) : OpR X (compareOp (if neg then .NotIn else .In)) (rInY X.K neg) := by
  intro pins s σ H x y v u Q I rx ry h
  obtain ⟨d, kvs, t, ys, rfl, hd, rfl, ht, q⟩ := h
  cases (show v = Value.ref d from rx)
  cases (show u = Value.ref t from ry)
  obtain ⟨_, _, vs, _, o, es, ep, g1, g2, g3, _⟩ := dk_rd I.hok hd
  obtain ⟨its, rv, pl, _⟩ := I.tuple ht
  have all : ∀ y, y ∈ its.toArray → SeqAt.EqAt X.A.in1 s y (.ref d) false := fun y hy => by
    obtain ⟨j, hj, e⟩ := List.getElem_of_mem (show y ∈ its by simpa using hy)
    have l := rv.length
    have hj2 : j < (ys.map V.str).length := by omega
    obtain ⟨w, e1, e2⟩ := rv.get (List.getElem?_eq_getElem hj2)
    rw [List.getElem?_eq_getElem hj, e] at e1
    cases e1
    rw [List.getElem_map] at e2
    obtain ⟨tk, rfl⟩ := e2
    exact SeqAt.mp_eq_sd _ tk g1 g2.1 g3 (by show X.A.units + 1 < cLine; omega)
  have no : its.toArray.any (fun _ => false) = false := by simp
  cases neg with
  | false => exact SeqAt.in_tupleAt (fun _ => false) (show s.heap.IsTuple t its.toArray from pl) all (by rw [no]; exact ⟨.bl _, H, I, rfl, q⟩)
  | true => exact SeqAt.notIn_tupleAt (fun _ => false) (show s.heap.IsTuple t its.toArray from pl) all (by rw [no]; exact ⟨.bl _, H, I, rfl, q⟩)
def strsD : List D → Bool
  | [] => true
  | .str _ :: r => strsD r
  | _ => false
theorem strsD_ok {T : Tb} {F : Hp} {ι : List Addr} : ∀ {ys : List D} {vs : List V}, Rps T F ι ys vs → strsD ys = true → ∃ zs : List Str, vs = zs.map V.str
  | [], vs, r, _ => by unfold Rps at r; exact ⟨[], r⟩
  | y :: ys, vs, r, h => by
    unfold Rps at r
    obtain ⟨v, us, rfl, r1, r2⟩ := r
    cases y with
    | str z =>
      obtain ⟨zs, rfl⟩ := strsD_ok r2 h
      unfold Rp at r1
      exact ⟨S z :: zs, by rw [r1]; rfl⟩
    | _ => cases h
def oInY (neg : Bool) : DOp
  | .dct _ _, .tup ys, s => if strsD ys = true then .ok (.bl neg) s else .stuck
  | x, y, s => oInX neg x y s
theorem do_inY {T : Tb} {neg : Bool} : DenOp T (orR (rInX T.K neg) (rInY T.K neg)) (oInY neg) := by
  intro x y dx dy H P ι F s Q E R rx ry post
  unfold oInY at post
  split at post
  · split at post
    · rename_i ks xs ys _ hs
      unfold Rp at rx ry
      obtain ⟨a, kvs, rfl, q, _⟩ := rx
      obtain ⟨b, vs, rfl, q2, r2⟩ := ry
      obtain ⟨zs, rfl⟩ := strsD_ok r2 hs
      exact .inr ⟨a, kvs, b, zs, rfl, rd_mono R.sub q, rfl, .inl (.inl (R.sub _ _ q2)), post.here R (by unfold Rp; rfl)⟩
    · exact post.elim
  · exact .inl (do_inX _ _ _ _ _ _ _ _ _ _ _ R rx ry post)
theorem op_inZ {X : Cx} (hu : X.A.units + 64 < cLine) : OpR X (compareOp .In) (orR (rInX X.K false) (rInY X.K false)) := OpR.or (op_inX hu) (op_inY false hu)
theorem op_notInZ {X : Cx} (hu : X.A.units + 64 < cLine) : OpR X (compareOp .NotIn) (orR (rInX X.K true) (rInY X.K true)) := OpR.or (op_notInX hu) (op_inY true hu)
end Mp
/-! # MpUnp -/
namespace Mp
open PySem PySem.Spec L2
/-! a, b, .. = a list -/
def tgL (ts : List DTg) : DTg := fun d δ => match d with
  | .lst xs => tgs ts xs δ
  | _ => none
section
variable {T : Tb} {X : Cx}
theorem g_lst {es : List Expr} {k : Nat} {pos : Pos} {ws : List Nat} {fs : List DTg} (h : PDgs T X es ws fs) (hn : (assignEach es X.env).length = fs.length := by rfl) (hst : (assignEach es X.env).findIdx? (·.1) = none := by rfl) (hc : X.calm = true := by rfl) (hK : X.K = T.K := by rfl) : PDg T X (.Tuple es k pos) ws (tgL fs) := fun pn xe => by
  obtain ⟨g1, p1, d1⟩ := h pn xe
  refine ⟨_, pg_lst (X := X.tr pn xe) hc p1 hn hst, fun σ H P ι F δ δ' s d v Q R E r e k => ?_⟩
  cases d with
  | lst xs =>
    obtain ⟨a, vs, rfl, h1, h2⟩ := lq_of R r (show lqOf s (.lst xs) = some xs from rfl)
    have e' : tgs fs xs δ = some δ' := e
    have hK' : (X.tr pn xe).K = T.K := hK
    refine ⟨a, vs, rfl, by rw [hK']; exact h1, ?_, d1 _ _ _ _ _ _ _ _ _ _ _ R E h2 e' k⟩
    rw [← h2.len]
    exact tgs_len e'
  | _ => cases e
end
@[simp] theorem tgL_eq {ts : List DTg} {xs : List D} {δ : Env} : tgL ts (.lst xs) δ = tgs ts xs δ := rfl
end Mp
/-! # the defs -/
namespace Rb
open PySem PySem.Spec L2 Mp
def top (i : Nat) : Stmt := PySem.Challenge.pw_roadbook_k07_trips_refused.main.body.getD i (.Pass ⟨0, 0, 0, 0⟩)
def inClass (st : Stmt) (j : Nat) : Stmt := match st with
  | .ClassDef _ _ _ body .. => body.getD j (.Pass ⟨0, 0, 0, 0⟩)
  | _ => .Pass ⟨0, 0, 0, 0⟩
abbrev s_is_among : Stmt := top 21
abbrev s_need : Stmt := top 23
abbrev s_Week___init__ : Stmt := inClass (top 25) 0
abbrev s_is_name : Stmt := top 35
abbrev s_need_fresh : Stmt := top 36
abbrev s_need_among : Stmt := top 37
abbrev s_need_room : Stmt := top 38
abbrev s_are_calls : Stmt := top 39
abbrev s_rises : Stmt := top 40
abbrev s_Net___init__ : Stmt := inClass (top 41) 0
abbrev s_Net_need_stop : Stmt := inClass (top 41) 1
abbrev s_Net_need_rule : Stmt := inClass (top 41) 2
abbrev s_Net_need_trip : Stmt := inClass (top 41) 3
abbrev s_Net_add_stop : Stmt := inClass (top 41) 4
abbrev s_Net_add_rule : Stmt := inClass (top 41) 6
abbrev s_Net_add_trip : Stmt := inClass (top 41) 8
abbrev s_Net_trips : Stmt := inClass (top 41) 12
abbrev s_Net_rule_name : Stmt := inClass (top 41) 18
abbrev s_Net_calls : Stmt := inClass (top 41) 19
abbrev s__law_cell_at : Stmt := top 43
abbrev s__law_mixed : Stmt := top 44
abbrev s__law_among : Stmt := top 45
abbrev s__law_name : Stmt := top 46
abbrev s__law_is_name : Stmt := top 47
abbrev s__law_said : Stmt := top 48
abbrev s__law_calls : Stmt := top 49
abbrev s__law_shape : Stmt := top 50
abbrev s__law_due : Stmt := top 51
abbrev s__law_bad_call : Stmt := top 52
abbrev s__law_spoilt : Stmt := top 53
abbrev s__law_tried : Stmt := top 54
abbrev s__law_borders : Stmt := top 55
abbrev s_law : Stmt := top 56
def caT (K : PySem.W.Frag) : Nat → Addr
  | 0 => He.ga K "RoadError"
  | 1 => He.ga K "BadClock"
  | 2 => He.ga K "BadRule"
  | 3 => He.ga K "TooMany"
  | 4 => He.ga K "BadName"
  | 5 => He.ga K "Twice"
  | 6 => He.ga K "NoStop"
  | 7 => He.ga K "NoRule"
  | 8 => He.ga K "NoTicket"
  | 9 => He.ga K "NoTrip"
  | 10 => He.ga K "BadNumber"
  | 11 => He.ga K "BadCalls"
  | 12 => He.ga K "NoRun"
  | 13 => He.ga K "TooLate"
  | 14 => He.ga K "NoTraveller"
  | 15 => He.ga K "BadLine"
  | 16 => He.ga K "BadRow"
  | 17 => He.ga K "NoPlan"
  | 18 => He.ga K "Rule"
  | 19 => He.ga K "Week"
  | 20 => He.ga K "Net"
  | _ => 0
def fmT : Nat → Str
  | 0 => "bits"
  | 1 => "spots"
  | 2 => "paths"
  | 3 => "habits"
  | 4 => "passes"
  | 5 => "lines"
  | _ => ""
def tbT (K : PySem.W.Frag) : Nat → Addr × Str
  | 0 => ((He.cT K ("_law_tried", none)).2, "_law_tried.<locals>.<lambda>")
  | _ => (0, "")
abbrev tb (K : PySem.W.Frag) : Tb := { K := K, ca := caT K, fm := fmT, tb := tbT K }
abbrev parT : List Nat := [0, 0, 0, 0, 0, 0, 0, 0, 0, 0, 0, 0, 0, 0, 0, 0, 0, 0]
abbrev n1T : Nat := 16
abbrev parA : List Nat := [0, 0, 0, 0, 0, 0, 0, 0, 0, 0, 0, 0, 0, 0, 0, 0, 0, 0, 18, 18, 20]
abbrev csT : List Nat := [18, 19, 20]
theorem nm_add_rule : ∀ i, i < 6 → fmT i ≠ "add_rule" := by decide +kernel
theorem nm_add_stop : ∀ i, i < 6 → fmT i ≠ "add_stop" := by decide +kernel
theorem nm_add_trip : ∀ i, i < 6 → fmT i ≠ "add_trip" := by decide +kernel
theorem nm_calls : ∀ i, i < 6 → fmT i ≠ "calls" := by decide +kernel
theorem nm_need_rule : ∀ i, i < 6 → fmT i ≠ "need_rule" := by decide +kernel
theorem nm_need_stop : ∀ i, i < 6 → fmT i ≠ "need_stop" := by decide +kernel
theorem nm_need_trip : ∀ i, i < 6 → fmT i ≠ "need_trip" := by decide +kernel
theorem nm_rule_name : ∀ i, i < 6 → fmT i ≠ "rule_name" := by decide +kernel
theorem nm_trips : ∀ i, i < 6 → fmT i ≠ "trips" := by decide +kernel
structure Txt (K : PySem.W.Frag) (mg : Str → Option Value) : Prop where
  f_ValueError : mg "ValueError" = none
  f_all : mg "all" = none
  f_bool : mg "bool" = none
  f_enumerate : mg "enumerate" = none
  f_int : mg "int" = none
  f_isinstance : mg "isinstance" = none
  f_len : mg "len" = none
  f_list : mg "list" = none
  f_max : mg "max" = none
  f_range : mg "range" = none
  f_str : mg "str" = none
  f_tuple : mg "tuple" = none
  k_LETTERS : ∃ u, mg "LETTERS" = some u ∧ RelV (.str (S [97, 98, 99, 100, 101, 102, 103, 104, 105, 106, 107, 108, 109, 110, 111, 112, 113, 114, 115, 116, 117, 118, 119, 120, 121, 122])) u
  k_MOST_LETTERS : ∃ u, mg "MOST_LETTERS" = some u ∧ RelV (.int 8) u
  k_MOST_MINUTE : ∃ u, mg "MOST_MINUTE" = some u ∧ RelV (.int 2879) u
  k_MOST_STOPS : ∃ u, mg "MOST_STOPS" = some u ∧ RelV (.int 8) u
  k_MOST_RULES : ∃ u, mg "MOST_RULES" = some u ∧ RelV (.int 6) u
  k_MOST_TRIPS : ∃ u, mg "MOST_TRIPS" = some u ∧ RelV (.int 10) u
  k_MOST_CALLS : ∃ u, mg "MOST_CALLS" = some u ∧ RelV (.int 6) u
  k_MOST_ZONE : ∃ u, mg "MOST_ZONE" = some u ∧ RelV (.int 6) u
  c_RoadError : mg "RoadError" = some (.ref (caT K 0))
  c_BadClock : mg "BadClock" = some (.ref (caT K 1))
  c_BadRule : mg "BadRule" = some (.ref (caT K 2))
  c_TooMany : mg "TooMany" = some (.ref (caT K 3))
  c_BadName : mg "BadName" = some (.ref (caT K 4))
  c_Twice : mg "Twice" = some (.ref (caT K 5))
  c_NoStop : mg "NoStop" = some (.ref (caT K 6))
  c_NoRule : mg "NoRule" = some (.ref (caT K 7))
  c_NoTicket : mg "NoTicket" = some (.ref (caT K 8))
  c_NoTrip : mg "NoTrip" = some (.ref (caT K 9))
  c_BadNumber : mg "BadNumber" = some (.ref (caT K 10))
  c_BadCalls : mg "BadCalls" = some (.ref (caT K 11))
  c_NoRun : mg "NoRun" = some (.ref (caT K 12))
  c_TooLate : mg "TooLate" = some (.ref (caT K 13))
  c_NoTraveller : mg "NoTraveller" = some (.ref (caT K 14))
  c_BadLine : mg "BadLine" = some (.ref (caT K 15))
  c_BadRow : mg "BadRow" = some (.ref (caT K 16))
  c_NoPlan : mg "NoPlan" = some (.ref (caT K 17))
  c_Rule : mg "Rule" = some (.ref (caT K 18))
  c_Week : mg "Week" = some (.ref (caT K 19))
  c_Net : mg "Net" = some (.ref (caT K 20))
  xt : ExT K (caT K) parT n1T
  ob : ObT K (caT K) fmT csT 6
  ki : KiT K (caT K) parA csT
  m0_Rule : Mk0 K (caT K 18)
/-! ### is_among -/
abbrev N_is_among : List Str := ["thing", "least", "most"]
noncomputable def g_is_among : DS :=
  (sRet (dAndV (dBi (bIsO parT parA csT) (aCons (dVar 0) (aCons (dC (.ty "int")) aNil))) (dAndV (dNotV (dBi (bIsO parT parA csT) (aCons (dVar 0) (aCons (dC (.ty "bool")) aNil)))) (dChain oLe oLe (dVar 1) (dVar 0) (dVar 2)))))
noncomputable def f_is_among : List D → Sto → Res D := mkF 3 3 g_is_among
theorem sc_is_among : FnScope N_is_among ["thing", "least", "most"] (defScope s_is_among) := ⟨rfl, rfl, rfl, by decide +kernel, rfl, by decide +kernel, by decide +kernel⟩
section
variable {P : Program} {w : World} {K : PySem.W.Frag} {mg : Str → Option Value} {base : Heap}
theorem b_is_among (Tx : Txt K mg)  {f : Addr} (cdv : Value) (A : Around) (outer : List PySem.Env) (s : Shared) (H : Hp) (E : XK) (hr : Room 0 (A.deeper (PyProof.Rows.envOfC "is_among" (defScope s_is_among) s.heap.objs.size f cdv))) : PDb (tb K) (cxOf (L2.CX P w) P w (tb K).K mg base N_is_among "is_among" (defScope s_is_among) f cdv A outer s H E) (defBody s_is_among) (g_is_among) :=
  (b_one (s_ret (d_and (d_callB (fun _ _ => call_isA) (db_isO Tx.xt Tx.ob Tx.ki) Tx.f_isinstance (by decide +kernel) (a_cons (d_var 0) (a_cons (d_ty "int" Tx.f_int (by decide +kernel)) a_nil))) (d_and (d_not (d_callB (fun _ _ => call_isA) (db_isO Tx.xt Tx.ob Tx.ki) Tx.f_isinstance (by decide +kernel) (a_cons (d_var 0) (a_cons (d_ty "bool" Tx.f_bool (by decide +kernel)) a_nil)))) (d_one (d_chain (fun _ _ => op_le) (fun _ _ => op_le) do_cmp do_cmp (d_var 1) (d_var 0) (d_var 2)))))))
end
/-! ### need -/
abbrev N_need : List Str := ["good"]
noncomputable def g_need : DS :=
  (sIf (tNotD (tst (dVar 0))) (sRaise 2) sPass)
noncomputable def f_need : List D → Sto → Res D := mkF 1 1 g_need
theorem sc_need : FnScope N_need ["good"] (defScope s_need) := ⟨rfl, rfl, rfl, by decide +kernel, rfl, by decide +kernel, by decide +kernel⟩
section
variable {P : Program} {w : World} {K : PySem.W.Frag} {mg : Str → Option Value} {base : Heap}
theorem b_need (Tx : Txt K mg)  {f : Addr} (cdv : Value) (A : Around) (outer : List PySem.Env) (s : Shared) (H : Hp) (E : XK) (hr : Room 0 (A.deeper (PyProof.Rows.envOfC "need" (defScope s_need) s.heap.objs.size f cdv))) : PDb (tb K) (cxOf (L2.CX P w) P w (tb K).K mg base N_need "need" (defScope s_need) f cdv A outer s H E) (defBody s_need) (g_need) :=
  (b_one (s_if (t_not (t_val (d_var 0))) (b_one (s_raise 2 Tx.xt Tx.c_BadRule)) b_nil))
end
/-! ### Week.__init__ -/
abbrev N_Week___init__ : List Str := ["self", "bits"]
noncomputable def g_Week___init__ : DS :=
  (sSeq (sDrop (dCall f_need (aCons (dCall f_is_among (aCons (dVar 1) (aCons (dC (.int 0)) (aCons (dC (.int 127)) aNil)))) aNil)))
    (sFldS csT 6 0 (dVar 1) (dVar 0)))
noncomputable def f_Week___init__ : List D → Sto → Res D := mkF 2 2 g_Week___init__
theorem sc_Week___init__ : FnScope N_Week___init__ ["self", "bits"] (defScope s_Week___init__) := ⟨rfl, rfl, rfl, by decide +kernel, rfl, by decide +kernel, by decide +kernel⟩
section
variable {P : Program} {w : World} {K : PySem.W.Frag} {mg : Str → Option Value} {base : Heap}
theorem b_Week___init__ (Tx : Txt K mg) (c_is_among : Cl (tb K) P w mg base "is_among" 1 3 f_is_among) (c_need : Cl (tb K) P w mg base "need" 1 1 f_need) {f : Addr} (cdv : Value) (A : Around) (outer : List PySem.Env) (s : Shared) (H : Hp) (E : XK) (hr : Room 1 (A.deeper (PyProof.Rows.envOfC "Week.__init__" (defScope s_Week___init__) s.heap.objs.size f cdv))) : PDb (tb K) (cxOf (L2.CX P w) P w (tb K).K mg base N_Week___init__ "Week.__init__" (defScope s_Week___init__) f cdv A outer s H E) (defBody s_Week___init__) (g_Week___init__) :=
  (b_cons (s_expr (d_call c_need (a_cons (d_call c_is_among (a_cons (d_var 1) (a_cons d_int (a_cons d_int a_nil))) hr (by omega)) a_nil) hr (by omega)))
    (b_one (s_fld 0 Tx.ob (d_var 1) (d_var 0))))
end
/-! ### is_name -/
abbrev N_is_name : List Str := ["thing", "sign"]
noncomputable def g_is_name : DS :=
  (sSeq (sIf (tOrD (tNotD (tst (dBi (bIsO parT parA csT) (aCons (dVar 0) (aCons (dC (.ty "str")) aNil))))) (tNotD (tst (dChain oLe oLe (dC (.int 1)) (dBi bLen (aCons (dVar 0) aNil)) (dC (.int 8)))))) (sRet (dC (.bl false))) sPass)
    (sRet (dBi bAll (aCons (dLc (itAny (dVar 0)) (tgN 1) cYes (dOp (oInA false) (dVar 1) (dC (.str [97, 98, 99, 100, 101, 102, 103, 104, 105, 106, 107, 108, 109, 110, 111, 112, 113, 114, 115, 116, 117, 118, 119, 120, 121, 122]))) [1]) aNil))))
noncomputable def f_is_name : List D → Sto → Res D := mkF 2 1 g_is_name
theorem sc_is_name : FnScope N_is_name ["thing"] (defScope s_is_name) := ⟨rfl, rfl, rfl, by decide +kernel, rfl, by decide +kernel, by decide +kernel⟩
section
variable {P : Program} {w : World} {K : PySem.W.Frag} {mg : Str → Option Value} {base : Heap}
theorem b_is_name (Tx : Txt K mg)  {f : Addr} (cdv : Value) (A : Around) (outer : List PySem.Env) (s : Shared) (H : Hp) (E : XK) (hr : Room 0 (A.deeper (PyProof.Rows.envOfC "is_name" (defScope s_is_name) s.heap.objs.size f cdv))) : PDb (tb K) (cxOf (L2.CX P w) P w (tb K).K mg base N_is_name "is_name" (defScope s_is_name) f cdv A outer s H E) (defBody s_is_name) (g_is_name) :=
  (b_cons (s_if (PDw.t (w_or (t_not (t_val (d_callB (fun _ _ => call_isA) (db_isO Tx.xt Tx.ob Tx.ki) Tx.f_isinstance (by decide +kernel) (a_cons (d_var 0) (a_cons (d_ty "str" Tx.f_str (by decide +kernel)) a_nil))))) (w_or1 (t_not (t_chain (fun _ _ => op_le) (fun _ _ => op_le) do_cmp do_cmp d_int (d_callB (fun _ _ => call_len) db_len Tx.f_len (by decide +kernel) (a_cons (d_var 0) a_nil)) (d_glob (d := .int 8) (v := .int 8) (fun _ _ => by unfold Rp; rfl) Tx.k_MOST_LETTERS)))))) (b_one (s_ret d_bl)) b_nil)
    (b_one (s_ret (d_callB (fun _ _ => cr_all rfl) db_all Tx.f_all (by decide +kernel) (a_cons (d_lc (own := [("sign", 1)]) sc_is_name.nd (i_any (d_var 0)) (blkOk_by (sc := defScope s_is_name) (N := N_is_name) (by decide +kernel)) (fun _ _ _ _ _ => (g_name 1 sc_is_name.nd)) (fun _ _ _ _ _ => ts_nil) (fun _ _ _ _ _ => (d_cmp (fun _ _ => op_inA) do_inA (d_var 1) (d_glob (d := .str [97, 98, 99, 100, 101, 102, 103, 104, 105, 106, 107, 108, 109, 110, 111, 112, 113, 114, 115, 116, 117, 118, 119, 120, 121, 122]) (v := .str (S [97, 98, 99, 100, 101, 102, 103, 104, 105, 106, 107, 108, 109, 110, 111, 112, 113, 114, 115, 116, 117, 118, 119, 120, 121, 122])) (fun _ _ => by unfold Rp; rfl) Tx.k_LETTERS) (by rfl)))) a_nil)))))
end
/-! ### need_fresh -/
abbrev N_need_fresh : List Str := ["name", "kept"]
noncomputable def g_need_fresh : DS :=
  (sSeq (sIf (tNotD (tst (dCall f_is_name (aCons (dVar 0) aNil)))) (sRaise 4) sPass)
    (sIf (tst (dDin false (dVar 0) (dVar 1))) (sRaise 5) sPass))
noncomputable def f_need_fresh : List D → Sto → Res D := mkF 2 2 g_need_fresh
theorem sc_need_fresh : FnScope N_need_fresh ["name", "kept"] (defScope s_need_fresh) := ⟨rfl, rfl, rfl, by decide +kernel, rfl, by decide +kernel, by decide +kernel⟩
section
variable {P : Program} {w : World} {K : PySem.W.Frag} {mg : Str → Option Value} {base : Heap}
theorem b_need_fresh (Tx : Txt K mg) (c_is_name : Cl (tb K) P w mg base "is_name" 1 1 f_is_name) {f : Addr} (cdv : Value) (A : Around) (outer : List PySem.Env) (s : Shared) (H : Hp) (E : XK) (hr : Room 1 (A.deeper (PyProof.Rows.envOfC "need_fresh" (defScope s_need_fresh) s.heap.objs.size f cdv))) : PDb (tb K) (cxOf (L2.CX P w) P w (tb K).K mg base N_need_fresh "need_fresh" (defScope s_need_fresh) f cdv A outer s H E) (defBody s_need_fresh) (g_need_fresh) :=
  (b_cons (s_if (t_not (t_val (d_call c_is_name (a_cons (d_var 0) a_nil) hr (by omega)))) (b_one (s_raise 4 Tx.xt Tx.c_BadName)) b_nil)
    (b_one (s_if (t_din (d_var 0) (d_var 1) (hu_of hr.units)) (b_one (s_raise 5 Tx.xt Tx.c_Twice)) b_nil)))
end
/-! ### need_among -/
abbrev N_need_among : List Str := ["thing", "least", "most"]
noncomputable def g_need_among : DS :=
  (sIf (tNotD (tst (dCall f_is_among (aCons (dVar 0) (aCons (dVar 1) (aCons (dVar 2) aNil)))))) (sRaise 10) sPass)
noncomputable def f_need_among : List D → Sto → Res D := mkF 3 3 g_need_among
theorem sc_need_among : FnScope N_need_among ["thing", "least", "most"] (defScope s_need_among) := ⟨rfl, rfl, rfl, by decide +kernel, rfl, by decide +kernel, by decide +kernel⟩
section
variable {P : Program} {w : World} {K : PySem.W.Frag} {mg : Str → Option Value} {base : Heap}
theorem b_need_among (Tx : Txt K mg) (c_is_among : Cl (tb K) P w mg base "is_among" 1 3 f_is_among) {f : Addr} (cdv : Value) (A : Around) (outer : List PySem.Env) (s : Shared) (H : Hp) (E : XK) (hr : Room 1 (A.deeper (PyProof.Rows.envOfC "need_among" (defScope s_need_among) s.heap.objs.size f cdv))) : PDb (tb K) (cxOf (L2.CX P w) P w (tb K).K mg base N_need_among "need_among" (defScope s_need_among) f cdv A outer s H E) (defBody s_need_among) (g_need_among) :=
  (b_one (s_if (t_not (t_val (d_call c_is_among (a_cons (d_var 0) (a_cons (d_var 1) (a_cons (d_var 2) a_nil))) hr (by omega)))) (b_one (s_raise 10 Tx.xt Tx.c_BadNumber)) b_nil))
end
/-! ### need_room -/
abbrev N_need_room : List Str := ["kept", "most"]
noncomputable def g_need_room : DS :=
  (sIf (tst (dOp oGe (dBi bLenA (aCons (dVar 0) aNil)) (dVar 1))) (sRaise 3) sPass)
noncomputable def f_need_room : List D → Sto → Res D := mkF 2 2 g_need_room
theorem sc_need_room : FnScope N_need_room ["kept", "most"] (defScope s_need_room) := ⟨rfl, rfl, rfl, by decide +kernel, rfl, by decide +kernel, by decide +kernel⟩
section
variable {P : Program} {w : World} {K : PySem.W.Frag} {mg : Str → Option Value} {base : Heap}
theorem b_need_room (Tx : Txt K mg)  {f : Addr} (cdv : Value) (A : Around) (outer : List PySem.Env) (s : Shared) (H : Hp) (E : XK) (hr : Room 0 (A.deeper (PyProof.Rows.envOfC "need_room" (defScope s_need_room) s.heap.objs.size f cdv))) : PDb (tb K) (cxOf (L2.CX P w) P w (tb K).K mg base N_need_room "need_room" (defScope s_need_room) f cdv A outer s H E) (defBody s_need_room) (g_need_room) :=
  (b_one (s_if (t_cmp (fun _ _ => op_ge) do_cmp (d_callB (fun _ _ => call_lenA) db_lenA Tx.f_len PySem.boot_len (a_cons (d_var 0) a_nil)) (d_var 1) (nomark _)) (b_one (s_raise 3 Tx.xt Tx.c_TooMany)) b_nil))
end
/-! ### are_calls -/
abbrev N_are_calls : List Str := ["thing", "call"]
noncomputable def g_are_calls : DS :=
  (sSeq (sIf (tOrD (tNotD (tst (dBi (bIsO parT parA csT) (aCons (dVar 0) (aCons (dC (.ty "list")) aNil))))) (tNotD (tst (dChain oLe oLe (dC (.int 2)) (dBi bLen (aCons (dVar 0) aNil)) (dC (.int 6)))))) (sRet (dC (.bl false))) sPass)
    (sRet (dBi bAll (aCons (dLcA (dVar 0) (tgN 1) cYes (dAndV (dBi (bIsO parT parA csT) (aCons (dVar 1) (aCons (dC (.ty "tuple")) aNil))) (dOp oEq (dBi bLen (aCons (dVar 1) aNil)) (dC (.int 3)))) [1]) aNil))))
noncomputable def f_are_calls : List D → Sto → Res D := mkF 2 1 g_are_calls
theorem sc_are_calls : FnScope N_are_calls ["thing"] (defScope s_are_calls) := ⟨rfl, rfl, rfl, by decide +kernel, rfl, by decide +kernel, by decide +kernel⟩
section
variable {P : Program} {w : World} {K : PySem.W.Frag} {mg : Str → Option Value} {base : Heap}
theorem b_are_calls (Tx : Txt K mg)  {f : Addr} (cdv : Value) (A : Around) (outer : List PySem.Env) (s : Shared) (H : Hp) (E : XK) (hr : Room 0 (A.deeper (PyProof.Rows.envOfC "are_calls" (defScope s_are_calls) s.heap.objs.size f cdv))) : PDb (tb K) (cxOf (L2.CX P w) P w (tb K).K mg base N_are_calls "are_calls" (defScope s_are_calls) f cdv A outer s H E) (defBody s_are_calls) (g_are_calls) :=
  (b_cons (s_if (PDw.t (w_or (t_not (t_val (d_callB (fun _ _ => call_isA) (db_isO Tx.xt Tx.ob Tx.ki) Tx.f_isinstance (by decide +kernel) (a_cons (d_var 0) (a_cons (d_ty "list" Tx.f_list (by decide +kernel)) a_nil))))) (w_or1 (t_not (t_chain (fun _ _ => op_le) (fun _ _ => op_le) do_cmp do_cmp d_int (d_callB (fun _ _ => call_len) db_len Tx.f_len (by decide +kernel) (a_cons (d_var 0) a_nil)) (d_glob (d := .int 6) (v := .int 6) (fun _ _ => by unfold Rp; rfl) Tx.k_MOST_CALLS)))))) (b_one (s_ret d_bl)) b_nil)
    (b_one (s_ret (d_callB (fun _ _ => cr_all rfl) db_all Tx.f_all (by decide +kernel) (a_cons (d_lcA (own := [("call", 1)]) sc_are_calls.nd (d_var 0) (blkOk_by (sc := defScope s_are_calls) (N := N_are_calls) (by decide +kernel)) (fun _ _ _ _ _ => (g_name 1 sc_are_calls.nd)) (fun _ _ _ _ _ => ts_nil) (fun _ _ _ _ _ => (d_and (d_callB (fun _ _ => call_isA) (db_isO Tx.xt Tx.ob Tx.ki) Tx.f_isinstance (by decide +kernel) (a_cons (d_var 1) (a_cons (d_ty "tuple" Tx.f_tuple (by decide +kernel)) a_nil))) (d_one (d_cmp (fun _ _ => op_eqA hr.units) do_eq (d_callB (fun _ _ => call_len) db_len Tx.f_len (by decide +kernel) (a_cons (d_var 1) a_nil)) d_int (nomark _)))))) a_nil)))))
end
/-! ### rises -/
abbrev N_rises : List Str := ["ahead", "call"]
noncomputable def g_rises : DS :=
  (sSeq (sIf (tst (dOp oLt (dOp oIx (dVar 1) (dC (.int 2))) (dOp oIx (dVar 1) (dC (.int 1))))) (sRet (dC (.bl false))) sPass)
    (sRet (dOrV (dOp (oIs false) (dVar 0) (dC .non)) (dAndV (dOp oNe (dOp oIx (dVar 0) (dC (.int 0))) (dOp oIx (dVar 1) (dC (.int 0)))) (dOp oLt (dOp oIx (dVar 0) (dC (.int 2))) (dOp oIx (dVar 1) (dC (.int 1))))))))
noncomputable def f_rises : List D → Sto → Res D := mkF 2 2 g_rises
theorem sc_rises : FnScope N_rises ["ahead", "call"] (defScope s_rises) := ⟨rfl, rfl, rfl, by decide +kernel, rfl, by decide +kernel, by decide +kernel⟩
section
variable {P : Program} {w : World} {K : PySem.W.Frag} {mg : Str → Option Value} {base : Heap}
theorem b_rises (Tx : Txt K mg)  {f : Addr} (cdv : Value) (A : Around) (outer : List PySem.Env) (s : Shared) (H : Hp) (E : XK) (hr : Room 0 (A.deeper (PyProof.Rows.envOfC "rises" (defScope s_rises) s.heap.objs.size f cdv))) : PDb (tb K) (cxOf (L2.CX P w) P w (tb K).K mg base N_rises "rises" (defScope s_rises) f cdv A outer s H E) (defBody s_rises) (g_rises) :=
  (b_cons (s_if (t_cmp (fun _ _ => op_lt) do_cmp (d_ix (d_var 1) d_int) (d_ix (d_var 1) d_int) (nomark _)) (b_one (s_ret d_bl)) b_nil)
    (b_one (s_ret (d_or (d_cmp (fun _ _ => op_isN) do_is (d_var 0) d_non (nomark _)) (d_one (d_and (d_cmp (fun _ _ => op_neA hr.units) do_ne (d_ix (d_var 0) d_int) (d_ix (d_var 1) d_int) (nomark _)) (d_one (d_cmp (fun _ _ => op_lt) do_cmp (d_ix (d_var 0) d_int) (d_ix (d_var 1) d_int) (nomark _)))))))))
end
/-! ### Net.__init__ -/
abbrev N_Net___init__ : List Str := ["self"]
noncomputable def g_Net___init__ : DS :=
  (sSeq (sFldS csT 6 1 dDctC (dVar 0))
    (sSeq (sFldS csT 6 2 (dLstC aNil) (dVar 0))
    (sSeq (sFldS csT 6 3 dDctC (dVar 0))
    (sSeq (sFldS csT 6 4 dDctC (dVar 0))
    (sFldS csT 6 5 dDctC (dVar 0))))))
noncomputable def f_Net___init__ : List D → Sto → Res D := mkF 1 1 g_Net___init__
theorem sc_Net___init__ : FnScope N_Net___init__ ["self"] (defScope s_Net___init__) := ⟨rfl, rfl, rfl, by decide +kernel, rfl, by decide +kernel, by decide +kernel⟩
section
variable {P : Program} {w : World} {K : PySem.W.Frag} {mg : Str → Option Value} {base : Heap}
theorem b_Net___init__ (Tx : Txt K mg)  {f : Addr} (cdv : Value) (A : Around) (outer : List PySem.Env) (s : Shared) (H : Hp) (E : XK) (hr : Room 0 (A.deeper (PyProof.Rows.envOfC "Net.__init__" (defScope s_Net___init__) s.heap.objs.size f cdv))) : PDb (tb K) (cxOf (L2.CX P w) P w (tb K).K mg base N_Net___init__ "Net.__init__" (defScope s_Net___init__) f cdv A outer s H E) (defBody s_Net___init__) (g_Net___init__) :=
  (b_cons (s_fld 1 Tx.ob d_dctC (d_var 0))
    (b_cons (s_fld 2 Tx.ob (d_lstC a_nil) (d_var 0))
    (b_cons (s_fld 3 Tx.ob d_dctC (d_var 0))
    (b_cons (s_fld 4 Tx.ob d_dctC (d_var 0))
    (b_one (s_fld 5 Tx.ob d_dctC (d_var 0)))))))
end
/-! ### Net.need_stop -/
abbrev N_Net_need_stop : List Str := ["self", "stop"]
noncomputable def g_Net_need_stop : DS :=
  (sIf (tOrD (tNotD (tst (dCall f_is_name (aCons (dVar 1) aNil)))) (tst (dDin true (dVar 1) (dFld csT 6 1 (dVar 0))))) (sRaise 6) sPass)
noncomputable def f_Net_need_stop : List D → Sto → Res D := mkF 2 2 g_Net_need_stop
theorem sc_Net_need_stop : FnScope N_Net_need_stop ["self", "stop"] (defScope s_Net_need_stop) := ⟨rfl, rfl, rfl, by decide +kernel, rfl, by decide +kernel, by decide +kernel⟩
section
variable {P : Program} {w : World} {K : PySem.W.Frag} {mg : Str → Option Value} {base : Heap}
theorem b_Net_need_stop (Tx : Txt K mg) (c_is_name : Cl (tb K) P w mg base "is_name" 1 1 f_is_name) {f : Addr} (cdv : Value) (A : Around) (outer : List PySem.Env) (s : Shared) (H : Hp) (E : XK) (hr : Room 1 (A.deeper (PyProof.Rows.envOfC "Net.need_stop" (defScope s_Net_need_stop) s.heap.objs.size f cdv))) : PDb (tb K) (cxOf (L2.CX P w) P w (tb K).K mg base N_Net_need_stop "Net.need_stop" (defScope s_Net_need_stop) f cdv A outer s H E) (defBody s_Net_need_stop) (g_Net_need_stop) :=
  (b_one (s_if (PDw.t (w_or (t_not (t_val (d_call c_is_name (a_cons (d_var 1) a_nil) hr (by omega)))) (w_or1 (t_dnotin (d_var 1) (d_fld 1 Tx.ob (d_var 0)) (hu_of hr.units))))) (b_one (s_raise 6 Tx.xt Tx.c_NoStop)) b_nil))
end
/-! ### Net.need_rule -/
abbrev N_Net_need_rule : List Str := ["self", "name"]
noncomputable def g_Net_need_rule : DS :=
  (sIf (tOrD (tNotD (tst (dCall f_is_name (aCons (dVar 1) aNil)))) (tst (dDin true (dVar 1) (dFld csT 6 3 (dVar 0))))) (sRaise 7) sPass)
noncomputable def f_Net_need_rule : List D → Sto → Res D := mkF 2 2 g_Net_need_rule
theorem sc_Net_need_rule : FnScope N_Net_need_rule ["self", "name"] (defScope s_Net_need_rule) := ⟨rfl, rfl, rfl, by decide +kernel, rfl, by decide +kernel, by decide +kernel⟩
section
variable {P : Program} {w : World} {K : PySem.W.Frag} {mg : Str → Option Value} {base : Heap}
theorem b_Net_need_rule (Tx : Txt K mg) (c_is_name : Cl (tb K) P w mg base "is_name" 1 1 f_is_name) {f : Addr} (cdv : Value) (A : Around) (outer : List PySem.Env) (s : Shared) (H : Hp) (E : XK) (hr : Room 1 (A.deeper (PyProof.Rows.envOfC "Net.need_rule" (defScope s_Net_need_rule) s.heap.objs.size f cdv))) : PDb (tb K) (cxOf (L2.CX P w) P w (tb K).K mg base N_Net_need_rule "Net.need_rule" (defScope s_Net_need_rule) f cdv A outer s H E) (defBody s_Net_need_rule) (g_Net_need_rule) :=
  (b_one (s_if (PDw.t (w_or (t_not (t_val (d_call c_is_name (a_cons (d_var 1) a_nil) hr (by omega)))) (w_or1 (t_dnotin (d_var 1) (d_fld 3 Tx.ob (d_var 0)) (hu_of hr.units))))) (b_one (s_raise 7 Tx.xt Tx.c_NoRule)) b_nil))
end
/-! ### Net.need_trip -/
abbrev N_Net_need_trip : List Str := ["self", "trip"]
noncomputable def g_Net_need_trip : DS :=
  (sIf (tOrD (tNotD (tst (dCall f_is_name (aCons (dVar 1) aNil)))) (tst (dDin true (dVar 1) (dFld csT 6 5 (dVar 0))))) (sRaise 9) sPass)
noncomputable def f_Net_need_trip : List D → Sto → Res D := mkF 2 2 g_Net_need_trip
theorem sc_Net_need_trip : FnScope N_Net_need_trip ["self", "trip"] (defScope s_Net_need_trip) := ⟨rfl, rfl, rfl, by decide +kernel, rfl, by decide +kernel, by decide +kernel⟩
section
variable {P : Program} {w : World} {K : PySem.W.Frag} {mg : Str → Option Value} {base : Heap}
theorem b_Net_need_trip (Tx : Txt K mg) (c_is_name : Cl (tb K) P w mg base "is_name" 1 1 f_is_name) {f : Addr} (cdv : Value) (A : Around) (outer : List PySem.Env) (s : Shared) (H : Hp) (E : XK) (hr : Room 1 (A.deeper (PyProof.Rows.envOfC "Net.need_trip" (defScope s_Net_need_trip) s.heap.objs.size f cdv))) : PDb (tb K) (cxOf (L2.CX P w) P w (tb K).K mg base N_Net_need_trip "Net.need_trip" (defScope s_Net_need_trip) f cdv A outer s H E) (defBody s_Net_need_trip) (g_Net_need_trip) :=
  (b_one (s_if (PDw.t (w_or (t_not (t_val (d_call c_is_name (a_cons (d_var 1) a_nil) hr (by omega)))) (w_or1 (t_dnotin (d_var 1) (d_fld 5 Tx.ob (d_var 0)) (hu_of hr.units))))) (b_one (s_raise 9 Tx.xt Tx.c_NoTrip)) b_nil))
end
/-! ### Net.add_stop -/
abbrev N_Net_add_stop : List Str := ["self", "name", "zone", "change"]
noncomputable def g_Net_add_stop : DS :=
  (sSeq (sDrop (dCall f_need_fresh (aCons (dVar 1) (aCons (dFld csT 6 1 (dVar 0)) aNil))))
    (sSeq (sDrop (dCall f_need_among (aCons (dVar 2) (aCons (dC (.int 1)) (aCons (dC (.int 6)) aNil)))))
    (sSeq (sDrop (dCall f_need_among (aCons (dVar 3) (aCons (dC (.int 0)) (aCons (dC (.int 30)) aNil)))))
    (sSeq (sDrop (dCall f_need_room (aCons (dFld csT 6 1 (dVar 0)) (aCons (dC (.int 8)) aNil))))
    (sDput (dTup (aCons (dVar 2) (aCons (dVar 3) aNil))) (dFld csT 6 1 (dVar 0)) (dVar 1))))))
noncomputable def f_Net_add_stop : List D → Sto → Res D := mkF 4 4 g_Net_add_stop
theorem sc_Net_add_stop : FnScope N_Net_add_stop ["self", "name", "zone", "change"] (defScope s_Net_add_stop) := ⟨rfl, rfl, rfl, by decide +kernel, rfl, by decide +kernel, by decide +kernel⟩
section
variable {P : Program} {w : World} {K : PySem.W.Frag} {mg : Str → Option Value} {base : Heap}
theorem b_Net_add_stop (Tx : Txt K mg) (c_need_fresh : Cl (tb K) P w mg base "need_fresh" 2 2 f_need_fresh) (c_need_among : Cl (tb K) P w mg base "need_among" 2 3 f_need_among) (c_need_room : Cl (tb K) P w mg base "need_room" 1 2 f_need_room) {f : Addr} (cdv : Value) (A : Around) (outer : List PySem.Env) (s : Shared) (H : Hp) (E : XK) (hr : Room 2 (A.deeper (PyProof.Rows.envOfC "Net.add_stop" (defScope s_Net_add_stop) s.heap.objs.size f cdv))) : PDb (tb K) (cxOf (L2.CX P w) P w (tb K).K mg base N_Net_add_stop "Net.add_stop" (defScope s_Net_add_stop) f cdv A outer s H E) (defBody s_Net_add_stop) (g_Net_add_stop) :=
  (b_cons (s_expr (d_call c_need_fresh (a_cons (d_var 1) (a_cons (d_fld 1 Tx.ob (d_var 0)) a_nil)) hr (by omega)))
    (b_cons (s_expr (d_call c_need_among (a_cons (d_var 2) (a_cons d_int (a_cons (d_glob (d := .int 6) (v := .int 6) (fun _ _ => by unfold Rp; rfl) Tx.k_MOST_ZONE) a_nil))) hr (by omega)))
    (b_cons (s_expr (d_call c_need_among (a_cons (d_var 3) (a_cons d_int (a_cons d_int a_nil))) hr (by omega)))
    (b_cons (s_expr (d_call c_need_room (a_cons (d_fld 1 Tx.ob (d_var 0)) (a_cons (d_glob (d := .int 8) (v := .int 8) (fun _ _ => by unfold Rp; rfl) Tx.k_MOST_STOPS) a_nil)) hr (by omega)))
    (b_one (s_dput (d_tup (a_cons (d_var 2) (a_cons (d_var 3) a_nil))) (d_fld 1 Tx.ob (d_var 0)) (d_var 1) (hu_of hr.units)))))))
end
/-! ### Net.add_rule -/
abbrev N_Net_add_rule : List Str := ["self", "name", "rule"]
noncomputable def g_Net_add_rule : DS :=
  (sSeq (sDrop (dCall f_need_fresh (aCons (dVar 1) (aCons (dFld csT 6 3 (dVar 0)) aNil))))
    (sSeq (sIf (tNotD (tst (dBi (bIsO parT parA csT) (aCons (dVar 2) (aCons (dC (.cls 18)) aNil))))) (sRaise 2) sPass)
    (sSeq (sDrop (dCall f_need_room (aCons (dFld csT 6 3 (dVar 0)) (aCons (dC (.int 6)) aNil))))
    (sDput (dVar 2) (dFld csT 6 3 (dVar 0)) (dVar 1)))))
noncomputable def f_Net_add_rule : List D → Sto → Res D := mkF 3 3 g_Net_add_rule
theorem sc_Net_add_rule : FnScope N_Net_add_rule ["self", "name", "rule"] (defScope s_Net_add_rule) := ⟨rfl, rfl, rfl, by decide +kernel, rfl, by decide +kernel, by decide +kernel⟩
section
variable {P : Program} {w : World} {K : PySem.W.Frag} {mg : Str → Option Value} {base : Heap}
theorem b_Net_add_rule (Tx : Txt K mg) (c_need_fresh : Cl (tb K) P w mg base "need_fresh" 2 2 f_need_fresh) (c_need_room : Cl (tb K) P w mg base "need_room" 1 2 f_need_room) {f : Addr} (cdv : Value) (A : Around) (outer : List PySem.Env) (s : Shared) (H : Hp) (E : XK) (hr : Room 2 (A.deeper (PyProof.Rows.envOfC "Net.add_rule" (defScope s_Net_add_rule) s.heap.objs.size f cdv))) : PDb (tb K) (cxOf (L2.CX P w) P w (tb K).K mg base N_Net_add_rule "Net.add_rule" (defScope s_Net_add_rule) f cdv A outer s H E) (defBody s_Net_add_rule) (g_Net_add_rule) :=
  (b_cons (s_expr (d_call c_need_fresh (a_cons (d_var 1) (a_cons (d_fld 3 Tx.ob (d_var 0)) a_nil)) hr (by omega)))
    (b_cons (s_if (t_not (t_val (d_callB (fun _ _ => call_isA) (db_isO Tx.xt Tx.ob Tx.ki) Tx.f_isinstance (by decide +kernel) (a_cons (d_var 2) (a_cons (d_cls 18 Tx.c_Rule) a_nil))))) (b_one (s_raise 2 Tx.xt Tx.c_BadRule)) b_nil)
    (b_cons (s_expr (d_call c_need_room (a_cons (d_fld 3 Tx.ob (d_var 0)) (a_cons (d_glob (d := .int 6) (v := .int 6) (fun _ _ => by unfold Rp; rfl) Tx.k_MOST_RULES) a_nil)) hr (by omega)))
    (b_one (s_dput (d_var 2) (d_fld 3 Tx.ob (d_var 0)) (d_var 1) (hu_of hr.units))))))
end
/-! ### Net.add_trip -/
abbrev N_Net_add_trip : List Str := ["self", "name", "rule", "calls", "ahead", "call"]
noncomputable def g_Net_add_trip_b1 : DS :=
  (sSeq (sDrop (dMeth 6 [(20, f_Net_need_stop)] (dVar 0) (aCons (dOp oIx (dVar 5) (dC (.int 0))) aNil)))
    (sSeq (sDrop (dCall f_need_among (aCons (dOp oIx (dVar 5) (dC (.int 1))) (aCons (dC (.int 0)) (aCons (dC (.int 2879)) aNil)))))
    (sSeq (sDrop (dCall f_need_among (aCons (dOp oIx (dVar 5) (dC (.int 2))) (aCons (dC (.int 0)) (aCons (dC (.int 2879)) aNil)))))
    (sSeq (sIf (tNotD (tst (dCall f_rises (aCons (dVar 4) (aCons (dVar 5) aNil))))) (sRaise 11) sPass)
    (sSet 4 (dVar 5))))))
noncomputable def g_Net_add_trip : DS :=
  (sSeq (sDrop (dCall f_need_fresh (aCons (dVar 1) (aCons (dFld csT 6 5 (dVar 0)) aNil))))
    (sSeq (sDrop (dMeth 6 [(20, f_Net_need_rule)] (dVar 0) (aCons (dVar 2) aNil)))
    (sSeq (sIf (tNotD (tst (dCall f_are_calls (aCons (dVar 3) aNil)))) (sRaise 11) sPass)
    (sSeq (sSet 4 (dC .non))
    (sSeq (sForA (dVar 3) (tgN 5) g_Net_add_trip_b1)
    (sSeq (sDrop (dCall f_need_room (aCons (dFld csT 6 5 (dVar 0)) (aCons (dC (.int 10)) aNil))))
    (sDput (dTup (aCons (dVar 2) (aCons (dBi bTuple (aCons (dVar 3) aNil)) aNil))) (dFld csT 6 5 (dVar 0)) (dVar 1))))))))
noncomputable def f_Net_add_trip : List D → Sto → Res D := mkF 6 4 g_Net_add_trip
theorem sc_Net_add_trip : FnScope N_Net_add_trip ["self", "name", "rule", "calls"] (defScope s_Net_add_trip) := ⟨rfl, rfl, rfl, by decide +kernel, rfl, by decide +kernel, by decide +kernel⟩
section
variable {P : Program} {w : World} {K : PySem.W.Frag} {mg : Str → Option Value} {base : Heap}
theorem b_Net_add_trip (Tx : Txt K mg) (c_need_fresh : Cl (tb K) P w mg base "need_fresh" 2 2 f_need_fresh) (c_are_calls : Cl (tb K) P w mg base "are_calls" 1 1 f_are_calls) (c_need_among : Cl (tb K) P w mg base "need_among" 2 3 f_need_among) (c_rises : Cl (tb K) P w mg base "rises" 1 2 f_rises) (c_need_room : Cl (tb K) P w mg base "need_room" 1 2 f_need_room) (m_Net_need_rule : Mc (tb K) P w mg base 20 "need_rule" 2 2 f_Net_need_rule) (m_Net_need_stop : Mc (tb K) P w mg base 20 "need_stop" 2 2 f_Net_need_stop) {f : Addr} (cdv : Value) (A : Around) (outer : List PySem.Env) (s : Shared) (H : Hp) (E : XK) (hr : Room 2 (A.deeper (PyProof.Rows.envOfC "Net.add_trip" (defScope s_Net_add_trip) s.heap.objs.size f cdv))) : PDb (tb K) (cxOf (L2.CX P w) P w (tb K).K mg base N_Net_add_trip "Net.add_trip" (defScope s_Net_add_trip) f cdv A outer s H E) (defBody s_Net_add_trip) (g_Net_add_trip) :=
  (b_cons (s_expr (d_call c_need_fresh (a_cons (d_var 1) (a_cons (d_fld 5 Tx.ob (d_var 0)) a_nil)) hr (by omega)))
    (b_cons (s_expr (d_meth (nF := 6) (j := 2) (tbl := [(20, f_Net_need_rule)]) ⟨⟨m_Net_need_rule.up (by omega), rfl⟩, trivial⟩ nm_need_rule (d_var 0) (a_cons (d_var 2) a_nil) hr))
    (b_cons (s_if (t_not (t_val (d_call c_are_calls (a_cons (d_var 3) a_nil) hr (by omega)))) (b_one (s_raise 11 Tx.xt Tx.c_BadCalls)) b_nil)
    (b_cons (s_set 4 sc_Net_add_trip.nd d_non)
    (b_cons (s_forA (d_var 3) (g_name 5 sc_Net_add_trip.nd) (b_cons (s_expr (d_meth (nF := 6) (j := 2) (tbl := [(20, f_Net_need_stop)]) ⟨⟨m_Net_need_stop.up (by omega), rfl⟩, trivial⟩ nm_need_stop (d_var 0) (a_cons (d_ix (d_var 5) d_int) a_nil) hr))
    (b_cons (s_expr (d_call c_need_among (a_cons (d_ix (d_var 5) d_int) (a_cons d_int (a_cons (d_glob (d := .int 2879) (v := .int 2879) (fun _ _ => by unfold Rp; rfl) Tx.k_MOST_MINUTE) a_nil))) hr (by omega)))
    (b_cons (s_expr (d_call c_need_among (a_cons (d_ix (d_var 5) d_int) (a_cons d_int (a_cons (d_glob (d := .int 2879) (v := .int 2879) (fun _ _ => by unfold Rp; rfl) Tx.k_MOST_MINUTE) a_nil))) hr (by omega)))
    (b_cons (s_if (t_not (t_val (d_call c_rises (a_cons (d_var 4) (a_cons (d_var 5) a_nil)) hr (by omega)))) (b_one (s_raise 11 Tx.xt Tx.c_BadCalls)) b_nil)
    (b_one (s_set 4 sc_Net_add_trip.nd (d_var 5))))))))
    (b_cons (s_expr (d_call c_need_room (a_cons (d_fld 5 Tx.ob (d_var 0)) (a_cons (d_glob (d := .int 10) (v := .int 10) (fun _ _ => by unfold Rp; rfl) Tx.k_MOST_TRIPS) a_nil)) hr (by omega)))
    (b_one (s_dput (d_tup (a_cons (d_var 2) (a_cons (d_callT (fun _ _ => call_tuple_of) db_tuple Tx.f_tuple (by decide +kernel) (a_cons (d_var 3) a_nil)) a_nil))) (d_fld 5 Tx.ob (d_var 0)) (d_var 1) (hu_of hr.units)))))))))
end
/-! ### Net.trips -/
abbrev N_Net_trips : List Str := ["self"]
noncomputable def g_Net_trips : DS :=
  (sRet (dBi bListA (aCons (dFld csT 6 5 (dVar 0)) aNil)))
noncomputable def f_Net_trips : List D → Sto → Res D := mkF 1 1 g_Net_trips
theorem sc_Net_trips : FnScope N_Net_trips ["self"] (defScope s_Net_trips) := ⟨rfl, rfl, rfl, by decide +kernel, rfl, by decide +kernel, by decide +kernel⟩
section
variable {P : Program} {w : World} {K : PySem.W.Frag} {mg : Str → Option Value} {base : Heap}
theorem b_Net_trips (Tx : Txt K mg)  {f : Addr} (cdv : Value) (A : Around) (outer : List PySem.Env) (s : Shared) (H : Hp) (E : XK) (hr : Room 0 (A.deeper (PyProof.Rows.envOfC "Net.trips" (defScope s_Net_trips) s.heap.objs.size f cdv))) : PDb (tb K) (cxOf (L2.CX P w) P w (tb K).K mg base N_Net_trips "Net.trips" (defScope s_Net_trips) f cdv A outer s H E) (defBody s_Net_trips) (g_Net_trips) :=
  (b_one (s_ret (d_callT (fun _ _ => call_listA rfl) db_listA Tx.f_list (by decide +kernel) (a_cons (d_fld 5 Tx.ob (d_var 0)) a_nil))))
end
/-! ### Net.rule_name -/
abbrev N_Net_rule_name : List Str := ["self", "trip"]
noncomputable def g_Net_rule_name : DS :=
  (sSeq (sDrop (dMeth 6 [(20, f_Net_need_trip)] (dVar 0) (aCons (dVar 1) aNil)))
    (sRet (dOp oIx (dDix (dFld csT 6 5 (dVar 0)) (dVar 1)) (dC (.int 0)))))
noncomputable def f_Net_rule_name : List D → Sto → Res D := mkF 2 2 g_Net_rule_name
theorem sc_Net_rule_name : FnScope N_Net_rule_name ["self", "trip"] (defScope s_Net_rule_name) := ⟨rfl, rfl, rfl, by decide +kernel, rfl, by decide +kernel, by decide +kernel⟩
section
variable {P : Program} {w : World} {K : PySem.W.Frag} {mg : Str → Option Value} {base : Heap}
theorem b_Net_rule_name (Tx : Txt K mg) (m_Net_need_trip : Mc (tb K) P w mg base 20 "need_trip" 2 2 f_Net_need_trip) {f : Addr} (cdv : Value) (A : Around) (outer : List PySem.Env) (s : Shared) (H : Hp) (E : XK) (hr : Room 2 (A.deeper (PyProof.Rows.envOfC "Net.rule_name" (defScope s_Net_rule_name) s.heap.objs.size f cdv))) : PDb (tb K) (cxOf (L2.CX P w) P w (tb K).K mg base N_Net_rule_name "Net.rule_name" (defScope s_Net_rule_name) f cdv A outer s H E) (defBody s_Net_rule_name) (g_Net_rule_name) :=
  (b_cons (s_expr (d_meth (nF := 6) (j := 2) (tbl := [(20, f_Net_need_trip)]) ⟨⟨m_Net_need_trip.up (by omega), rfl⟩, trivial⟩ nm_need_trip (d_var 0) (a_cons (d_var 1) a_nil) hr))
    (b_one (s_ret (d_ix (d_dix (d_fld 5 Tx.ob (d_var 0)) (d_var 1) (hu_of hr.units)) d_int))))
end
/-! ### Net.calls -/
abbrev N_Net_calls : List Str := ["self", "trip"]
noncomputable def g_Net_calls : DS :=
  (sSeq (sDrop (dMeth 6 [(20, f_Net_need_trip)] (dVar 0) (aCons (dVar 1) aNil)))
    (sRet (dBi bListC (aCons (dOp oIx (dDix (dFld csT 6 5 (dVar 0)) (dVar 1)) (dC (.int 1))) aNil))))
noncomputable def f_Net_calls : List D → Sto → Res D := mkF 2 2 g_Net_calls
theorem sc_Net_calls : FnScope N_Net_calls ["self", "trip"] (defScope s_Net_calls) := ⟨rfl, rfl, rfl, by decide +kernel, rfl, by decide +kernel, by decide +kernel⟩
section
variable {P : Program} {w : World} {K : PySem.W.Frag} {mg : Str → Option Value} {base : Heap}
theorem b_Net_calls (Tx : Txt K mg) (m_Net_need_trip : Mc (tb K) P w mg base 20 "need_trip" 2 2 f_Net_need_trip) {f : Addr} (cdv : Value) (A : Around) (outer : List PySem.Env) (s : Shared) (H : Hp) (E : XK) (hr : Room 2 (A.deeper (PyProof.Rows.envOfC "Net.calls" (defScope s_Net_calls) s.heap.objs.size f cdv))) : PDb (tb K) (cxOf (L2.CX P w) P w (tb K).K mg base N_Net_calls "Net.calls" (defScope s_Net_calls) f cdv A outer s H E) (defBody s_Net_calls) (g_Net_calls) :=
  (b_cons (s_expr (d_meth (nF := 6) (j := 2) (tbl := [(20, f_Net_need_trip)]) ⟨⟨m_Net_need_trip.up (by omega), rfl⟩, trivial⟩ nm_need_trip (d_var 0) (a_cons (d_var 1) a_nil) hr))
    (b_one (s_ret (d_callT (fun _ _ => call_list_of) db_listC Tx.f_list (by decide +kernel) (a_cons (d_ix (d_dix (d_fld 5 Tx.ob (d_var 0)) (d_var 1) (hu_of hr.units)) d_int) a_nil)))))
end
/-! ### _law_cell_at -/
abbrev N__law_cell_at : List Str := ["_law_script", "_law_k"]
noncomputable def g__law_cell_at : DS :=
  (sSeq (sIf (tst (dOp oLt (dVar 1) (dBi bLen (aCons (dVar 0) aNil)))) (sRet (dOp oIx (dVar 0) (dVar 1))) sPass)
    (sRet (dC (.int 0))))
noncomputable def f__law_cell_at : List D → Sto → Res D := mkF 2 2 g__law_cell_at
theorem sc__law_cell_at : FnScope N__law_cell_at ["_law_script", "_law_k"] (defScope s__law_cell_at) := ⟨rfl, rfl, rfl, by decide +kernel, rfl, by decide +kernel, by decide +kernel⟩
section
variable {P : Program} {w : World} {K : PySem.W.Frag} {mg : Str → Option Value} {base : Heap}
theorem b__law_cell_at (Tx : Txt K mg)  {f : Addr} (cdv : Value) (A : Around) (outer : List PySem.Env) (s : Shared) (H : Hp) (E : XK) (hr : Room 0 (A.deeper (PyProof.Rows.envOfC "_law_cell_at" (defScope s__law_cell_at) s.heap.objs.size f cdv))) : PDb (tb K) (cxOf (L2.CX P w) P w (tb K).K mg base N__law_cell_at "_law_cell_at" (defScope s__law_cell_at) f cdv A outer s H E) (defBody s__law_cell_at) (g__law_cell_at) :=
  (b_cons (s_if (t_cmp (fun _ _ => op_lt) do_cmp (d_var 1) (d_callB (fun _ _ => call_len) db_len Tx.f_len (by decide +kernel) (a_cons (d_var 0) a_nil)) (nomark _)) (b_one (s_ret (d_ix (d_var 0) (d_var 1)))) b_nil)
    (b_one (s_ret d_int)))
end
/-! ### _law_mixed -/
abbrev N__law_mixed : List Str := ["_law_cell", "_law_k", "_law_number"]
noncomputable def g__law_mixed : DS :=
  (sSeq (sSet 2 (dOp oAdd (dOp oAdd (dOp oMod (dVar 0) (dC (.int 1000000007))) (dOp oMulA (dC (.int 7919)) (dVar 1))) (dC (.int 13))))
    (sRet (dOp oDiv (dOp oMod (dOp oMulA (dOp oMod (dOp oMulA (dVar 2) (dVar 2)) (dC (.int 1000000007))) (dVar 2)) (dC (.int 998244353))) (dC (.int 11)))))
noncomputable def f__law_mixed : List D → Sto → Res D := mkF 3 2 g__law_mixed
theorem sc__law_mixed : FnScope N__law_mixed ["_law_cell", "_law_k"] (defScope s__law_mixed) := ⟨rfl, rfl, rfl, by decide +kernel, rfl, by decide +kernel, by decide +kernel⟩
section
variable {P : Program} {w : World} {K : PySem.W.Frag} {mg : Str → Option Value} {base : Heap}
theorem b__law_mixed (Tx : Txt K mg)  {f : Addr} (cdv : Value) (A : Around) (outer : List PySem.Env) (s : Shared) (H : Hp) (E : XK) (hr : Room 0 (A.deeper (PyProof.Rows.envOfC "_law_mixed" (defScope s__law_mixed) s.heap.objs.size f cdv))) : PDb (tb K) (cxOf (L2.CX P w) P w (tb K).K mg base N__law_mixed "_law_mixed" (defScope s__law_mixed) f cdv A outer s H E) (defBody s__law_mixed) (g__law_mixed) :=
  (b_cons (s_set 2 sc__law_mixed.nd (d_op (fun _ _ => op_addA) do_add (d_op (fun _ _ => op_addA) do_add (d_op (fun _ _ => op_mod) do_mod (d_var 0) d_int) (d_op (fun _ _ => op_mulA) do_mulA d_int (d_var 1))) d_int))
    (b_one (s_ret (d_op (fun _ _ => op_fdiv) do_div (d_op (fun _ _ => op_mod) do_mod (d_op (fun _ _ => op_mulA) do_mulA (d_op (fun _ _ => op_mod) do_mod (d_op (fun _ _ => op_mulA) do_mulA (d_var 2) (d_var 2)) d_int) (d_var 2)) d_int) d_int))))
end
/-! ### _law_among -/
abbrev N__law_among : List Str := ["_law_thing", "_law_least", "_law_most"]
noncomputable def g__law_among : DS :=
  (sRet (dAndV (dBi (bIsO parT parA csT) (aCons (dVar 0) (aCons (dC (.ty "int")) aNil))) (dAndV (dNotV (dBi (bIsO parT parA csT) (aCons (dVar 0) (aCons (dC (.ty "bool")) aNil)))) (dChain oLe oLe (dVar 1) (dVar 0) (dVar 2)))))
noncomputable def f__law_among : List D → Sto → Res D := mkF 3 3 g__law_among
theorem sc__law_among : FnScope N__law_among ["_law_thing", "_law_least", "_law_most"] (defScope s__law_among) := ⟨rfl, rfl, rfl, by decide +kernel, rfl, by decide +kernel, by decide +kernel⟩
section
variable {P : Program} {w : World} {K : PySem.W.Frag} {mg : Str → Option Value} {base : Heap}
theorem b__law_among (Tx : Txt K mg)  {f : Addr} (cdv : Value) (A : Around) (outer : List PySem.Env) (s : Shared) (H : Hp) (E : XK) (hr : Room 0 (A.deeper (PyProof.Rows.envOfC "_law_among" (defScope s__law_among) s.heap.objs.size f cdv))) : PDb (tb K) (cxOf (L2.CX P w) P w (tb K).K mg base N__law_among "_law_among" (defScope s__law_among) f cdv A outer s H E) (defBody s__law_among) (g__law_among) :=
  (b_one (s_ret (d_and (d_callB (fun _ _ => call_isA) (db_isO Tx.xt Tx.ob Tx.ki) Tx.f_isinstance (by decide +kernel) (a_cons (d_var 0) (a_cons (d_ty "int" Tx.f_int (by decide +kernel)) a_nil))) (d_and (d_not (d_callB (fun _ _ => call_isA) (db_isO Tx.xt Tx.ob Tx.ki) Tx.f_isinstance (by decide +kernel) (a_cons (d_var 0) (a_cons (d_ty "bool" Tx.f_bool (by decide +kernel)) a_nil)))) (d_one (d_chain (fun _ _ => op_le) (fun _ _ => op_le) do_cmp do_cmp (d_var 1) (d_var 0) (d_var 2)))))))
end
/-! ### _law_name -/
abbrev N__law_name : List Str := ["_law_seed", "_law_k", "_law_letters", "_law_tail", "_law_at", "_law_j"]
noncomputable def g__law_name : DS :=
  (sSeq (sSet 2 (dC (.str [97, 98, 99, 100, 101, 102, 103, 104, 105, 106, 107, 108, 109, 110, 111, 112, 113, 114, 115, 116, 117, 118, 119, 120, 121, 122])))
    (sSeq (sSet 3 (dMt "str" mJoin (dC (.str [])) (aCons (dLc (itR1 (aCons (dOp oMod (dVar 0) (dC (.int 7))) aNil)) (tgN 5) cYes (dOp oIx (dVar 2) (dOp oMod (dCall f__law_mixed (aCons (dVar 0) (aCons (dOp oAdd (dC (.int 20)) (dVar 5)) aNil))) (dC (.int 26)))) [5]) aNil)))
    (sSeq (sSet 4 (dOp oMod (dOp oDiv (dVar 0) (dC (.int 7))) (dOp oAdd (dBi bLen (aCons (dVar 3) aNil)) (dC (.int 1)))))
    (sRet (dOp oAdd (dOp oAdd (dSl (dVar 3) pNone (pSome (dVar 4))) (dOp oIx (dVar 2) (dOp oMod (dOp oAdd (dOp oDiv (dVar 0) (dC (.int 56))) (dOp oMulA (dC (.int 3)) (dVar 1))) (dC (.int 26))))) (dSl (dVar 3) (pSome (dVar 4)) pNone))))))
noncomputable def f__law_name : List D → Sto → Res D := mkF 6 2 g__law_name
theorem sc__law_name : FnScope N__law_name ["_law_seed", "_law_k"] (defScope s__law_name) := ⟨rfl, rfl, rfl, by decide +kernel, rfl, by decide +kernel, by decide +kernel⟩
section
variable {P : Program} {w : World} {K : PySem.W.Frag} {mg : Str → Option Value} {base : Heap}
theorem b__law_name (Tx : Txt K mg) (c__law_mixed : Cl (tb K) P w mg base "_law_mixed" 1 2 f__law_mixed) {f : Addr} (cdv : Value) (A : Around) (outer : List PySem.Env) (s : Shared) (H : Hp) (E : XK) (hr : Room 1 (A.deeper (PyProof.Rows.envOfC "_law_name" (defScope s__law_name) s.heap.objs.size f cdv))) : PDb (tb K) (cxOf (L2.CX P w) P w (tb K).K mg base N__law_name "_law_name" (defScope s__law_name) f cdv A outer s H E) (defBody s__law_name) (g__law_name) :=
  (b_cons (s_set 2 sc__law_name.nd (d_str [97, 98, 99, 100, 101, 102, 103, 104, 105, 106, 107, 108, 109, 110, 111, 112, 113, 114, 115, 116, 117, 118, 119, 120, 121, 122] (by decide +kernel)))
    (b_cons (s_set 3 sc__law_name.nd (d_mt PySem.F.plainAttrs_str PySem.F.slot_str_join PySem.F.type_str_join (fun _ _ => mt_join) dm_join (d_str [] (by decide +kernel)) (a_cons (d_lc (own := [("_law_j", 5)]) sc__law_name.nd (i_range1 Tx.f_range (a_cons (d_op (fun _ _ => op_mod) do_mod (d_var 0) d_int) a_nil)) (blkOk_by (sc := defScope s__law_name) (N := N__law_name) (by decide +kernel)) (fun _ _ _ _ _ => (g_name 5 sc__law_name.nd)) (fun _ _ _ _ _ => ts_nil) (fun _ _ _ _ _ => (d_ix (d_var 2) (d_op (fun _ _ => op_mod) do_mod (d_call c__law_mixed (a_cons (d_var 0) (a_cons (d_op (fun _ _ => op_addA) do_add d_int (d_var 5)) a_nil)) hr (by omega)) d_int)))) a_nil)))
    (b_cons (s_set 4 sc__law_name.nd (d_op (fun _ _ => op_mod) do_mod (d_op (fun _ _ => op_fdiv) do_div (d_var 0) d_int) (d_op (fun _ _ => op_addA) do_add (d_callB (fun _ _ => call_len) db_len Tx.f_len (by decide +kernel) (a_cons (d_var 3) a_nil)) d_int)))
    (b_one (s_ret (d_op (fun _ _ => op_addA) do_add (d_op (fun _ _ => op_addA) do_add (d_sl (d_var 3) o_none (o_some (d_var 4))) (d_ix (d_var 2) (d_op (fun _ _ => op_mod) do_mod (d_op (fun _ _ => op_addA) do_add (d_op (fun _ _ => op_fdiv) do_div (d_var 0) d_int) (d_op (fun _ _ => op_mulA) do_mulA d_int (d_var 1))) d_int))) (d_sl (d_var 3) (o_some (d_var 4)) o_none)))))))
end
/-! ### _law_is_name -/
abbrev N__law_is_name : List Str := ["_law_thing", "_law_sign"]
noncomputable def g__law_is_name : DS :=
  (sSeq (sIf (tOrD (tNotD (tst (dBi (bIsO parT parA csT) (aCons (dVar 0) (aCons (dC (.ty "str")) aNil))))) (tNotD (tst (dChain oLe oLe (dC (.int 1)) (dBi bLen (aCons (dVar 0) aNil)) (dC (.int 8)))))) (sRet (dC (.bl false))) sPass)
    (sRet (dOp oEq (dLc (itAny (dVar 0)) (tgN 1) (tst (dOp (oInA true) (dVar 1) (dC (.str [97, 98, 99, 100, 101, 102, 103, 104, 105, 106, 107, 108, 109, 110, 111, 112, 113, 114, 115, 116, 117, 118, 119, 120, 121, 122])))) (dVar 1) [1]) (dLst aNil))))
noncomputable def f__law_is_name : List D → Sto → Res D := mkF 2 1 g__law_is_name
theorem sc__law_is_name : FnScope N__law_is_name ["_law_thing"] (defScope s__law_is_name) := ⟨rfl, rfl, rfl, by decide +kernel, rfl, by decide +kernel, by decide +kernel⟩
section
variable {P : Program} {w : World} {K : PySem.W.Frag} {mg : Str → Option Value} {base : Heap}
theorem b__law_is_name (Tx : Txt K mg)  {f : Addr} (cdv : Value) (A : Around) (outer : List PySem.Env) (s : Shared) (H : Hp) (E : XK) (hr : Room 0 (A.deeper (PyProof.Rows.envOfC "_law_is_name" (defScope s__law_is_name) s.heap.objs.size f cdv))) : PDb (tb K) (cxOf (L2.CX P w) P w (tb K).K mg base N__law_is_name "_law_is_name" (defScope s__law_is_name) f cdv A outer s H E) (defBody s__law_is_name) (g__law_is_name) :=
  (b_cons (s_if (PDw.t (w_or (t_not (t_val (d_callB (fun _ _ => call_isA) (db_isO Tx.xt Tx.ob Tx.ki) Tx.f_isinstance (by decide +kernel) (a_cons (d_var 0) (a_cons (d_ty "str" Tx.f_str (by decide +kernel)) a_nil))))) (w_or1 (t_not (t_chain (fun _ _ => op_le) (fun _ _ => op_le) do_cmp do_cmp d_int (d_callB (fun _ _ => call_len) db_len Tx.f_len (by decide +kernel) (a_cons (d_var 0) a_nil)) d_int))))) (b_one (s_ret d_bl)) b_nil)
    (b_one (s_ret (d_cmp (fun _ _ => op_eqA hr.units) do_eq (d_lc (own := [("_law_sign", 1)]) sc__law_is_name.nd (i_any (d_var 0)) (blkOk_by (sc := defScope s__law_is_name) (N := N__law_is_name) (by decide +kernel)) (fun _ _ _ _ _ => (g_name 1 sc__law_is_name.nd)) (fun _ _ _ _ _ => ts_one (t_cmp (fun _ _ => op_notInA) do_notInA (d_var 1) (d_str [97, 98, 99, 100, 101, 102, 103, 104, 105, 106, 107, 108, 109, 110, 111, 112, 113, 114, 115, 116, 117, 118, 119, 120, 121, 122] (by decide +kernel)) (by rfl))) (fun _ _ _ _ _ => (d_var 1))) (d_lst a_nil) (nomark _)))))
end
abbrev NN__law_said : Nat := 3
/-! ### _law_said -/
abbrev N__law_said : List Str := ["_law_call", "e", "_law_found"]
noncomputable def g__law_said_b1 (fc : DE) : DS :=
  (sRet (dTup (aCons (dC (.str [116, 111, 108, 100])) (aCons fc aNil))))
noncomputable def g__law_said (fc : DE) : DS :=
  (sTry (ancO parT) 0 (some 1) (g__law_said_b1 fc) (sSeq (sSet 2 (dOp oAdd (dOp oMulA (dLst (aCons (dC (.str [99, 108, 111, 99, 107])) aNil)) (dBi bInt (aCons (dBi (bIsO parT parA csT) (aCons (dVar 1) (aCons (dC (.cls 1)) aNil))) aNil))) (dOp oMulA (dLst (aCons (dC (.str [100, 97, 121, 115])) aNil)) (dBi bInt (aCons (dBi (bIsO parT parA csT) (aCons (dVar 1) (aCons (dC (.cls 2)) aNil))) aNil)))))
    (sSeq (sSet 2 (dOp oAdd (dOp oAdd (dVar 2) (dOp oMulA (dLst (aCons (dC (.str [109, 97, 110, 121])) aNil)) (dBi bInt (aCons (dBi (bIsO parT parA csT) (aCons (dVar 1) (aCons (dC (.cls 3)) aNil))) aNil)))) (dOp oMulA (dLst (aCons (dC (.str [110, 97, 109, 101])) aNil)) (dBi bInt (aCons (dBi (bIsO parT parA csT) (aCons (dVar 1) (aCons (dC (.cls 4)) aNil))) aNil)))))
    (sSeq (sSet 2 (dOp oAdd (dOp oAdd (dVar 2) (dOp oMulA (dLst (aCons (dC (.str [116, 119, 105, 99, 101])) aNil)) (dBi bInt (aCons (dBi (bIsO parT parA csT) (aCons (dVar 1) (aCons (dC (.cls 5)) aNil))) aNil)))) (dOp oMulA (dLst (aCons (dC (.str [115, 116, 111, 112])) aNil)) (dBi bInt (aCons (dBi (bIsO parT parA csT) (aCons (dVar 1) (aCons (dC (.cls 6)) aNil))) aNil)))))
    (sSeq (sSet 2 (dOp oAdd (dOp oAdd (dVar 2) (dOp oMulA (dLst (aCons (dC (.str [114, 117, 108, 101])) aNil)) (dBi bInt (aCons (dBi (bIsO parT parA csT) (aCons (dVar 1) (aCons (dC (.cls 7)) aNil))) aNil)))) (dOp oMulA (dLst (aCons (dC (.str [116, 105, 99, 107, 101, 116])) aNil)) (dBi bInt (aCons (dBi (bIsO parT parA csT) (aCons (dVar 1) (aCons (dC (.cls 8)) aNil))) aNil)))))
    (sSeq (sSet 2 (dOp oAdd (dOp oAdd (dVar 2) (dOp oMulA (dLst (aCons (dC (.str [116, 114, 105, 112])) aNil)) (dBi bInt (aCons (dBi (bIsO parT parA csT) (aCons (dVar 1) (aCons (dC (.cls 9)) aNil))) aNil)))) (dOp oMulA (dLst (aCons (dC (.str [110, 117, 109, 98, 101, 114])) aNil)) (dBi bInt (aCons (dBi (bIsO parT parA csT) (aCons (dVar 1) (aCons (dC (.cls 10)) aNil))) aNil)))))
    (sSeq (sSet 2 (dOp oAdd (dOp oAdd (dVar 2) (dOp oMulA (dLst (aCons (dC (.str [99, 97, 108, 108, 115])) aNil)) (dBi bInt (aCons (dBi (bIsO parT parA csT) (aCons (dVar 1) (aCons (dC (.cls 11)) aNil))) aNil)))) (dOp oMulA (dLst (aCons (dC (.str [114, 111, 119])) aNil)) (dBi bInt (aCons (dBi (bIsO parT parA csT) (aCons (dVar 1) (aCons (dC (.cls 16)) aNil))) aNil)))))
    (sSeq (sSet 2 (dOp oAdd (dOp oAdd (dVar 2) (dOp oMulA (dLst (aCons (dC (.str [114, 117, 110])) aNil)) (dBi bInt (aCons (dBi (bIsO parT parA csT) (aCons (dVar 1) (aCons (dC (.cls 12)) aNil))) aNil)))) (dOp oMulA (dLst (aCons (dC (.str [112, 108, 97, 110])) aNil)) (dBi bInt (aCons (dBi (bIsO parT parA csT) (aCons (dVar 1) (aCons (dC (.cls 17)) aNil))) aNil)))))
    (sSeq (sSet 2 (dOp oAdd (dOp oAdd (dVar 2) (dOp oMulA (dLst (aCons (dC (.str [108, 97, 116, 101])) aNil)) (dBi bInt (aCons (dBi (bIsO parT parA csT) (aCons (dVar 1) (aCons (dC (.cls 13)) aNil))) aNil)))) (dOp oMulA (dLst (aCons (dC (.str [108, 105, 110, 101])) aNil)) (dBi bInt (aCons (dBi (bIsO parT parA csT) (aCons (dVar 1) (aCons (dC (.cls 15)) aNil))) aNil)))))
    (sSeq (sSet 2 (dOp oAdd (dOp oAdd (dVar 2) (dOp oMulA (dLst (aCons (dC (.str [116, 114, 97, 118, 101, 108, 108, 101, 114])) aNil)) (dBi bInt (aCons (dBi (bIsO parT parA csT) (aCons (dVar 1) (aCons (dC (.cls 14)) aNil))) aNil)))) (dOp oMulA (dLst (aCons (dC (.str [98, 97, 114, 101])) aNil)) (dBi bInt (aCons (dNotV (dBi (bIsO parT parA csT) (aCons (dVar 1) (aCons (dC (.ty "ValueError")) aNil)))) aNil)))))
    (sRet (dIfE (tst (dOp oEq (dBi bLen (aCons (dVar 2) aNil)) (dC (.int 1)))) (dOp oIx (dVar 2) (dC (.int 0))) (dC (.str [111, 116, 104, 101, 114]))))))))))))))
theorem sc__law_said : FnScope N__law_said ["_law_call"] (defScope s__law_said) := ⟨rfl, rfl, rfl, by decide +kernel, rfl, by decide +kernel, by decide +kernel⟩
section
variable {P : Program} {w : World} {K : PySem.W.Frag} {mg : Str → Option Value} {base : Heap}
theorem b__law_said (Tx : Txt K mg)  {f : Addr} (cdv : Value) (A : Around) (outer : List PySem.Env) (s : Shared) (H : Hp) (E : XK) (hr : Room 0 (A.deeper (PyProof.Rows.envOfC "_law_said" (defScope s__law_said) s.heap.objs.size f cdv))) (fc : DE) (hcall : ∀ p1 p2, PDe (tb K) (cxOf (L2.CX P w) P w (tb K).K mg base N__law_said "_law_said" (defScope s__law_said) f cdv A outer s H E) (.Call (.Name "_law_call" p1) [] [] p2) fc) : PDb (tb K) (cxOf (L2.CX P w) P w (tb K).K mg base N__law_said "_law_said" (defScope s__law_said) f cdv A outer s H E) (defBody s__law_said) (g__law_said fc) :=
  (b_one (s_tryA 0 1 Tx.xt sc__law_said.nd Tx.c_RoadError (b_one (s_ret (d_tup (a_cons (d_str [116, 111, 108, 100] (by decide +kernel)) (a_cons (hcall _ _) a_nil))))) (fun _ _ => (b_cons (s_set 2 sc__law_said.nd (d_op (fun _ _ => op_addA) do_add (d_op (fun _ _ => op_mulA) do_mulA (d_lst (a_cons (d_str [99, 108, 111, 99, 107] (by decide +kernel)) a_nil)) (d_callT (fun _ _ => call_intA) db_int Tx.f_int (by decide +kernel) (a_cons (d_callB (fun _ _ => call_isA) (db_isO Tx.xt Tx.ob Tx.ki) Tx.f_isinstance (by decide +kernel) (a_cons (d_var 1) (a_cons (d_cls 1 Tx.c_BadClock) a_nil))) a_nil))) (d_op (fun _ _ => op_mulA) do_mulA (d_lst (a_cons (d_str [100, 97, 121, 115] (by decide +kernel)) a_nil)) (d_callT (fun _ _ => call_intA) db_int Tx.f_int (by decide +kernel) (a_cons (d_callB (fun _ _ => call_isA) (db_isO Tx.xt Tx.ob Tx.ki) Tx.f_isinstance (by decide +kernel) (a_cons (d_var 1) (a_cons (d_cls 2 Tx.c_BadRule) a_nil))) a_nil)))))
    (b_cons (s_set 2 sc__law_said.nd (d_op (fun _ _ => op_addA) do_add (d_op (fun _ _ => op_addA) do_add (d_var 2) (d_op (fun _ _ => op_mulA) do_mulA (d_lst (a_cons (d_str [109, 97, 110, 121] (by decide +kernel)) a_nil)) (d_callT (fun _ _ => call_intA) db_int Tx.f_int (by decide +kernel) (a_cons (d_callB (fun _ _ => call_isA) (db_isO Tx.xt Tx.ob Tx.ki) Tx.f_isinstance (by decide +kernel) (a_cons (d_var 1) (a_cons (d_cls 3 Tx.c_TooMany) a_nil))) a_nil)))) (d_op (fun _ _ => op_mulA) do_mulA (d_lst (a_cons (d_str [110, 97, 109, 101] (by decide +kernel)) a_nil)) (d_callT (fun _ _ => call_intA) db_int Tx.f_int (by decide +kernel) (a_cons (d_callB (fun _ _ => call_isA) (db_isO Tx.xt Tx.ob Tx.ki) Tx.f_isinstance (by decide +kernel) (a_cons (d_var 1) (a_cons (d_cls 4 Tx.c_BadName) a_nil))) a_nil)))))
    (b_cons (s_set 2 sc__law_said.nd (d_op (fun _ _ => op_addA) do_add (d_op (fun _ _ => op_addA) do_add (d_var 2) (d_op (fun _ _ => op_mulA) do_mulA (d_lst (a_cons (d_str [116, 119, 105, 99, 101] (by decide +kernel)) a_nil)) (d_callT (fun _ _ => call_intA) db_int Tx.f_int (by decide +kernel) (a_cons (d_callB (fun _ _ => call_isA) (db_isO Tx.xt Tx.ob Tx.ki) Tx.f_isinstance (by decide +kernel) (a_cons (d_var 1) (a_cons (d_cls 5 Tx.c_Twice) a_nil))) a_nil)))) (d_op (fun _ _ => op_mulA) do_mulA (d_lst (a_cons (d_str [115, 116, 111, 112] (by decide +kernel)) a_nil)) (d_callT (fun _ _ => call_intA) db_int Tx.f_int (by decide +kernel) (a_cons (d_callB (fun _ _ => call_isA) (db_isO Tx.xt Tx.ob Tx.ki) Tx.f_isinstance (by decide +kernel) (a_cons (d_var 1) (a_cons (d_cls 6 Tx.c_NoStop) a_nil))) a_nil)))))
    (b_cons (s_set 2 sc__law_said.nd (d_op (fun _ _ => op_addA) do_add (d_op (fun _ _ => op_addA) do_add (d_var 2) (d_op (fun _ _ => op_mulA) do_mulA (d_lst (a_cons (d_str [114, 117, 108, 101] (by decide +kernel)) a_nil)) (d_callT (fun _ _ => call_intA) db_int Tx.f_int (by decide +kernel) (a_cons (d_callB (fun _ _ => call_isA) (db_isO Tx.xt Tx.ob Tx.ki) Tx.f_isinstance (by decide +kernel) (a_cons (d_var 1) (a_cons (d_cls 7 Tx.c_NoRule) a_nil))) a_nil)))) (d_op (fun _ _ => op_mulA) do_mulA (d_lst (a_cons (d_str [116, 105, 99, 107, 101, 116] (by decide +kernel)) a_nil)) (d_callT (fun _ _ => call_intA) db_int Tx.f_int (by decide +kernel) (a_cons (d_callB (fun _ _ => call_isA) (db_isO Tx.xt Tx.ob Tx.ki) Tx.f_isinstance (by decide +kernel) (a_cons (d_var 1) (a_cons (d_cls 8 Tx.c_NoTicket) a_nil))) a_nil)))))
    (b_cons (s_set 2 sc__law_said.nd (d_op (fun _ _ => op_addA) do_add (d_op (fun _ _ => op_addA) do_add (d_var 2) (d_op (fun _ _ => op_mulA) do_mulA (d_lst (a_cons (d_str [116, 114, 105, 112] (by decide +kernel)) a_nil)) (d_callT (fun _ _ => call_intA) db_int Tx.f_int (by decide +kernel) (a_cons (d_callB (fun _ _ => call_isA) (db_isO Tx.xt Tx.ob Tx.ki) Tx.f_isinstance (by decide +kernel) (a_cons (d_var 1) (a_cons (d_cls 9 Tx.c_NoTrip) a_nil))) a_nil)))) (d_op (fun _ _ => op_mulA) do_mulA (d_lst (a_cons (d_str [110, 117, 109, 98, 101, 114] (by decide +kernel)) a_nil)) (d_callT (fun _ _ => call_intA) db_int Tx.f_int (by decide +kernel) (a_cons (d_callB (fun _ _ => call_isA) (db_isO Tx.xt Tx.ob Tx.ki) Tx.f_isinstance (by decide +kernel) (a_cons (d_var 1) (a_cons (d_cls 10 Tx.c_BadNumber) a_nil))) a_nil)))))
    (b_cons (s_set 2 sc__law_said.nd (d_op (fun _ _ => op_addA) do_add (d_op (fun _ _ => op_addA) do_add (d_var 2) (d_op (fun _ _ => op_mulA) do_mulA (d_lst (a_cons (d_str [99, 97, 108, 108, 115] (by decide +kernel)) a_nil)) (d_callT (fun _ _ => call_intA) db_int Tx.f_int (by decide +kernel) (a_cons (d_callB (fun _ _ => call_isA) (db_isO Tx.xt Tx.ob Tx.ki) Tx.f_isinstance (by decide +kernel) (a_cons (d_var 1) (a_cons (d_cls 11 Tx.c_BadCalls) a_nil))) a_nil)))) (d_op (fun _ _ => op_mulA) do_mulA (d_lst (a_cons (d_str [114, 111, 119] (by decide +kernel)) a_nil)) (d_callT (fun _ _ => call_intA) db_int Tx.f_int (by decide +kernel) (a_cons (d_callB (fun _ _ => call_isA) (db_isO Tx.xt Tx.ob Tx.ki) Tx.f_isinstance (by decide +kernel) (a_cons (d_var 1) (a_cons (d_cls 16 Tx.c_BadRow) a_nil))) a_nil)))))
    (b_cons (s_set 2 sc__law_said.nd (d_op (fun _ _ => op_addA) do_add (d_op (fun _ _ => op_addA) do_add (d_var 2) (d_op (fun _ _ => op_mulA) do_mulA (d_lst (a_cons (d_str [114, 117, 110] (by decide +kernel)) a_nil)) (d_callT (fun _ _ => call_intA) db_int Tx.f_int (by decide +kernel) (a_cons (d_callB (fun _ _ => call_isA) (db_isO Tx.xt Tx.ob Tx.ki) Tx.f_isinstance (by decide +kernel) (a_cons (d_var 1) (a_cons (d_cls 12 Tx.c_NoRun) a_nil))) a_nil)))) (d_op (fun _ _ => op_mulA) do_mulA (d_lst (a_cons (d_str [112, 108, 97, 110] (by decide +kernel)) a_nil)) (d_callT (fun _ _ => call_intA) db_int Tx.f_int (by decide +kernel) (a_cons (d_callB (fun _ _ => call_isA) (db_isO Tx.xt Tx.ob Tx.ki) Tx.f_isinstance (by decide +kernel) (a_cons (d_var 1) (a_cons (d_cls 17 Tx.c_NoPlan) a_nil))) a_nil)))))
    (b_cons (s_set 2 sc__law_said.nd (d_op (fun _ _ => op_addA) do_add (d_op (fun _ _ => op_addA) do_add (d_var 2) (d_op (fun _ _ => op_mulA) do_mulA (d_lst (a_cons (d_str [108, 97, 116, 101] (by decide +kernel)) a_nil)) (d_callT (fun _ _ => call_intA) db_int Tx.f_int (by decide +kernel) (a_cons (d_callB (fun _ _ => call_isA) (db_isO Tx.xt Tx.ob Tx.ki) Tx.f_isinstance (by decide +kernel) (a_cons (d_var 1) (a_cons (d_cls 13 Tx.c_TooLate) a_nil))) a_nil)))) (d_op (fun _ _ => op_mulA) do_mulA (d_lst (a_cons (d_str [108, 105, 110, 101] (by decide +kernel)) a_nil)) (d_callT (fun _ _ => call_intA) db_int Tx.f_int (by decide +kernel) (a_cons (d_callB (fun _ _ => call_isA) (db_isO Tx.xt Tx.ob Tx.ki) Tx.f_isinstance (by decide +kernel) (a_cons (d_var 1) (a_cons (d_cls 15 Tx.c_BadLine) a_nil))) a_nil)))))
    (b_cons (s_set 2 sc__law_said.nd (d_op (fun _ _ => op_addA) do_add (d_op (fun _ _ => op_addA) do_add (d_var 2) (d_op (fun _ _ => op_mulA) do_mulA (d_lst (a_cons (d_str [116, 114, 97, 118, 101, 108, 108, 101, 114] (by decide +kernel)) a_nil)) (d_callT (fun _ _ => call_intA) db_int Tx.f_int (by decide +kernel) (a_cons (d_callB (fun _ _ => call_isA) (db_isO Tx.xt Tx.ob Tx.ki) Tx.f_isinstance (by decide +kernel) (a_cons (d_var 1) (a_cons (d_cls 14 Tx.c_NoTraveller) a_nil))) a_nil)))) (d_op (fun _ _ => op_mulA) do_mulA (d_lst (a_cons (d_str [98, 97, 114, 101] (by decide +kernel)) a_nil)) (d_callT (fun _ _ => call_intA) db_int Tx.f_int (by decide +kernel) (a_cons (d_not (d_callB (fun _ _ => call_isA) (db_isO Tx.xt Tx.ob Tx.ki) Tx.f_isinstance (by decide +kernel) (a_cons (d_var 1) (a_cons (d_ty "ValueError" Tx.f_ValueError (by decide +kernel)) a_nil)))) a_nil)))))
    (b_one (s_ret (d_ifE (t_cmp (fun _ _ => op_eqA hr.units) do_eq (d_callB (fun _ _ => call_len) db_len Tx.f_len (by decide +kernel) (a_cons (d_var 2) a_nil)) d_int (nomark _)) (d_ix (d_var 2) d_int) (d_str [111, 116, 104, 101, 114] (by decide +kernel)))))))))))))))))
end
/-! ### _law_calls -/
abbrev N__law_calls : List Str := ["_law_number", "_law_stops", "_law_many", "_law_found", "_law_time", "_law_last", "_law_k", "_law_mixed_here", "_law_left", "_law_arrive", "_law_leave", "_law_stop"]
noncomputable def g__law_calls_b1 : DS :=
  (sSeq (sSet 7 (dCall f__law_mixed (aCons (dVar 0) (aCons (dOp oAdd (dC (.int 50)) (dVar 6)) aNil))))
    (sSeq (sSet 8 (dLc (itAny (dVar 1)) (tgN 11) (tst (dOp oNe (dVar 11) (dVar 5))) (dVar 11) [11]))
    (sSeq (sSet 5 (dOp oIx (dVar 8) (dOp oMod (dVar 7) (dBi bLen (aCons (dVar 8) aNil)))))
    (sSeq (sSet 9 (dOp oAdd (dOp oAdd (dVar 4) (dC (.int 1))) (dOp oMod (dOp oDiv (dVar 7) (dC (.int 8))) (dC (.int 40)))))
    (sSeq (sSet 10 (dOp oAdd (dVar 9) (dOp oMod (dOp oDiv (dVar 7) (dC (.int 320))) (dC (.int 5)))))
    (sSeq (sDrop (dMt "list" mAppend (dVar 3) (aCons (dTup (aCons (dVar 5) (aCons (dVar 9) (aCons (dVar 10) aNil)))) aNil)))
    (sSet 4 (dVar 10))))))))
noncomputable def g__law_calls : DS :=
  (sSeq (sSet 3 (dLstC aNil))
    (sSeq (sSet 4 (dOp oAdd (dOp oIx (dLst (aCons (dC (.int 300)) (aCons (dC (.int 600)) (aCons (dC (.int 1380)) (aCons (dC (.int 2000)) aNil))))) (dOp oMod (dVar 0) (dC (.int 4)))) (dOp oMod (dOp oDiv (dVar 0) (dC (.int 4))) (dC (.int 60)))))
    (sSeq (sSet 5 (dC .non))
    (sSeq (sFor (itR1 (aCons (dVar 2) aNil)) (tgN 6) g__law_calls_b1)
    (sSeq (sFrz 3) (sRet (dVar 3)))))))
noncomputable def f__law_calls : List D → Sto → Res D := mkF 12 3 g__law_calls
theorem sc__law_calls : FnScope N__law_calls ["_law_number", "_law_stops", "_law_many"] (defScope s__law_calls) := ⟨rfl, rfl, rfl, by decide +kernel, rfl, by decide +kernel, by decide +kernel⟩
section
variable {P : Program} {w : World} {K : PySem.W.Frag} {mg : Str → Option Value} {base : Heap}
theorem b__law_calls (Tx : Txt K mg) (c__law_mixed : Cl (tb K) P w mg base "_law_mixed" 1 2 f__law_mixed) {f : Addr} (cdv : Value) (A : Around) (outer : List PySem.Env) (s : Shared) (H : Hp) (E : XK) (hr : Room 1 (A.deeper (PyProof.Rows.envOfC "_law_calls" (defScope s__law_calls) s.heap.objs.size f cdv))) : PDb (tb K) (cxOf (L2.CX P w) P w (tb K).K mg base N__law_calls "_law_calls" (defScope s__law_calls) f cdv A outer s H E) (defBody s__law_calls) (g__law_calls) :=
  (b_cons (s_set 3 sc__law_calls.nd (d_lstC a_nil))
    (b_cons (s_set 4 sc__law_calls.nd (d_op (fun _ _ => op_addA) do_add (d_ix (d_lst (a_cons d_int (a_cons d_int (a_cons d_int (a_cons d_int a_nil))))) (d_op (fun _ _ => op_mod) do_mod (d_var 0) d_int)) (d_op (fun _ _ => op_mod) do_mod (d_op (fun _ _ => op_fdiv) do_div (d_var 0) d_int) d_int)))
    (b_cons (s_set 5 sc__law_calls.nd d_non)
    (b_cons (s_for (i_range1 Tx.f_range (a_cons (d_var 2) a_nil)) (g_name 6 sc__law_calls.nd) (b_cons (s_set 7 sc__law_calls.nd (d_call c__law_mixed (a_cons (d_var 0) (a_cons (d_op (fun _ _ => op_addA) do_add d_int (d_var 6)) a_nil)) hr (by omega)))
    (b_cons (s_setLc 8 (own := [("_law_stop", 11)]) sc__law_calls.nd (i_any (d_var 1)) (blkOk_by (sc := defScope s__law_calls) (N := N__law_calls) (by decide +kernel)) (fun _ _ _ _ _ => (g_name 11 sc__law_calls.nd)) (fun _ _ _ _ _ => ts_one (t_cmp (fun _ _ => op_neA hr.units) do_ne (d_var 11) (d_var 5) (nomark _))) (fun _ _ _ _ _ => (d_var 11)) (sw_true rfl rfl rfl (by decide +kernel)))
    (b_cons (s_set 5 sc__law_calls.nd (d_ix (d_var 8) (d_op (fun _ _ => op_mod) do_mod (d_var 7) (d_callB (fun _ _ => call_len) db_len Tx.f_len (by decide +kernel) (a_cons (d_var 8) a_nil)))))
    (b_cons (s_set 9 sc__law_calls.nd (d_op (fun _ _ => op_addA) do_add (d_op (fun _ _ => op_addA) do_add (d_var 4) d_int) (d_op (fun _ _ => op_mod) do_mod (d_op (fun _ _ => op_fdiv) do_div (d_var 7) d_int) d_int)))
    (b_cons (s_set 10 sc__law_calls.nd (d_op (fun _ _ => op_addA) do_add (d_var 9) (d_op (fun _ _ => op_mod) do_mod (d_op (fun _ _ => op_fdiv) do_div (d_var 7) d_int) d_int)))
    (b_cons (s_expr (d_mt PySem.F.plainAttrs_list PySem.F.slot_list_append PySem.F.type_list_append (fun _ _ => mt_append) dm_append (d_var 3) (a_cons (d_tup (a_cons (d_var 5) (a_cons (d_var 9) (a_cons (d_var 10) a_nil)))) a_nil)))
    (b_one (s_set 4 sc__law_calls.nd (d_var 10))))))))))
    (b_frz 3 (b_one (s_ret (d_var 3))))))))
end
/-! ### _law_shape -/
abbrev N__law_shape : List Str := ["_law_thing", "_law_call"]
noncomputable def g__law_shape : DS :=
  (sSeq (sIf (tOrD (tNotD (tst (dBi (bIsO parT parA csT) (aCons (dVar 0) (aCons (dC (.ty "list")) aNil))))) (tNotD (tst (dChain oLe oLe (dC (.int 2)) (dBi bLen (aCons (dVar 0) aNil)) (dC (.int 6)))))) (sRet (dC (.bl false))) sPass)
    (sRet (dOp oEqB (dLc (itAny (dVar 0)) (tgN 1) (tOrD (tNotD (tst (dBi (bIsO parT parA csT) (aCons (dVar 1) (aCons (dC (.ty "tuple")) aNil))))) (tst (dOp oNe (dBi bLen (aCons (dVar 1) aNil)) (dC (.int 3))))) (dVar 1) [1]) (dLst aNil))))
noncomputable def f__law_shape : List D → Sto → Res D := mkF 2 1 g__law_shape
theorem sc__law_shape : FnScope N__law_shape ["_law_thing"] (defScope s__law_shape) := ⟨rfl, rfl, rfl, by decide +kernel, rfl, by decide +kernel, by decide +kernel⟩
section
variable {P : Program} {w : World} {K : PySem.W.Frag} {mg : Str → Option Value} {base : Heap}
theorem b__law_shape (Tx : Txt K mg)  {f : Addr} (cdv : Value) (A : Around) (outer : List PySem.Env) (s : Shared) (H : Hp) (E : XK) (hr : Room 0 (A.deeper (PyProof.Rows.envOfC "_law_shape" (defScope s__law_shape) s.heap.objs.size f cdv))) : PDb (tb K) (cxOf (L2.CX P w) P w (tb K).K mg base N__law_shape "_law_shape" (defScope s__law_shape) f cdv A outer s H E) (defBody s__law_shape) (g__law_shape) :=
  (b_cons (s_if (PDw.t (w_or (t_not (t_val (d_callB (fun _ _ => call_isA) (db_isO Tx.xt Tx.ob Tx.ki) Tx.f_isinstance (by decide +kernel) (a_cons (d_var 0) (a_cons (d_ty "list" Tx.f_list (by decide +kernel)) a_nil))))) (w_or1 (t_not (t_chain (fun _ _ => op_le) (fun _ _ => op_le) do_cmp do_cmp d_int (d_callB (fun _ _ => call_len) db_len Tx.f_len (by decide +kernel) (a_cons (d_var 0) a_nil)) d_int))))) (b_one (s_ret d_bl)) b_nil)
    (b_one (s_ret (d_cmp (fun _ _ => op_eqB hr.units) do_eqB (d_lc (own := [("_law_call", 1)]) sc__law_shape.nd (i_any (d_var 0)) (blkOk_by (sc := defScope s__law_shape) (N := N__law_shape) (by decide +kernel)) (fun _ _ _ _ _ => (g_name 1 sc__law_shape.nd)) (fun _ _ _ _ _ => ts_one (PDw.t (w_or (t_not (t_val (d_callB (fun _ _ => call_isA) (db_isO Tx.xt Tx.ob Tx.ki) Tx.f_isinstance (by decide +kernel) (a_cons (d_var 1) (a_cons (d_ty "tuple" Tx.f_tuple (by decide +kernel)) a_nil))))) (w_or1 (t_cmp (fun _ _ => op_neA hr.units) do_ne (d_callB (fun _ _ => call_len) db_len Tx.f_len (by decide +kernel) (a_cons (d_var 1) a_nil)) d_int (nomark _)))))) (fun _ _ _ _ _ => (d_var 1))) (d_lst a_nil) (nomark _)))))
end
/-! ### _law_due -/
abbrev N__law_due : List Str := ["_law_stops", "_law_taken", "_law_name_here", "_law_rule", "_law_calls_here", "_law_k", "_law_stop", "_law_arrive", "_law_leave"]
noncomputable def g__law_due_b1 : DS :=
  (sSeq (sAsg (dOp oIx (dVar 4) (dVar 5)) (tgT [(tgN 6), (tgN 7), (tgN 8)]))
    (sSeq (sIf (tOrD (tNotD (tst (dCall f__law_is_name (aCons (dVar 6) aNil)))) (tst (dOp (oInA true) (dVar 6) (dVar 0)))) (sRet (dC (.str [115, 116, 111, 112]))) sPass)
    (sSeq (sIf (tOrD (tNotD (tst (dCall f__law_among (aCons (dVar 7) (aCons (dC (.int 0)) (aCons (dC (.int 2879)) aNil)))))) (tNotD (tst (dCall f__law_among (aCons (dVar 8) (aCons (dC (.int 0)) (aCons (dC (.int 2879)) aNil))))))) (sRet (dC (.str [110, 117, 109, 98, 101, 114]))) sPass)
    (sIf (tOrD (tst (dOp oLt (dVar 8) (dVar 7))) (tAndD (tst (dOp oGt (dVar 5) (dC (.int 0)))) (tOrD (tst (dOp oEq (dVar 6) (dOp oIx (dOp oIx (dVar 4) (dOp oSub (dVar 5) (dC (.int 1)))) (dC (.int 0))))) (tst (dOp oLe (dVar 7) (dOp oIx (dOp oIx (dVar 4) (dOp oSub (dVar 5) (dC (.int 1)))) (dC (.int 2)))))))) (sRet (dC (.str [99, 97, 108, 108, 115]))) sPass))))
noncomputable def g__law_due : DS :=
  (sSeq (sIf (tNotD (tst (dCall f__law_is_name (aCons (dVar 2) aNil)))) (sRet (dC (.str [110, 97, 109, 101]))) sPass)
    (sSeq (sIf (tst (dOp (oInA false) (dVar 2) (dVar 1))) (sRet (dC (.str [116, 119, 105, 99, 101]))) sPass)
    (sSeq (sIf (tst (dOp (oInY true) (dVar 3) (dTup (aCons (dC (.str [100, 97, 105, 108, 121])) (aCons (dC (.str [115, 111, 109, 101])) aNil))))) (sRet (dC (.str [114, 117, 108, 101]))) sPass)
    (sSeq (sIf (tNotD (tst (dCall f__law_shape (aCons (dVar 4) aNil)))) (sRet (dC (.str [99, 97, 108, 108, 115]))) sPass)
    (sSeq (sFor (itR1 (aCons (dBi bLen (aCons (dVar 4) aNil)) aNil)) (tgN 5) g__law_due_b1)
    (sRet (dC .non)))))))
noncomputable def f__law_due : List D → Sto → Res D := mkF 9 5 g__law_due
theorem sc__law_due : FnScope N__law_due ["_law_stops", "_law_taken", "_law_name_here", "_law_rule", "_law_calls_here"] (defScope s__law_due) := ⟨rfl, rfl, rfl, by decide +kernel, rfl, by decide +kernel, by decide +kernel⟩
section
variable {P : Program} {w : World} {K : PySem.W.Frag} {mg : Str → Option Value} {base : Heap}
theorem b__law_due (Tx : Txt K mg) (c__law_is_name : Cl (tb K) P w mg base "_law_is_name" 1 1 f__law_is_name) (c__law_shape : Cl (tb K) P w mg base "_law_shape" 1 1 f__law_shape) (c__law_among : Cl (tb K) P w mg base "_law_among" 1 3 f__law_among) {f : Addr} (cdv : Value) (A : Around) (outer : List PySem.Env) (s : Shared) (H : Hp) (E : XK) (hr : Room 1 (A.deeper (PyProof.Rows.envOfC "_law_due" (defScope s__law_due) s.heap.objs.size f cdv))) : PDb (tb K) (cxOf (L2.CX P w) P w (tb K).K mg base N__law_due "_law_due" (defScope s__law_due) f cdv A outer s H E) (defBody s__law_due) (g__law_due) :=
  (b_cons (s_if (t_not (t_val (d_call c__law_is_name (a_cons (d_var 2) a_nil) hr (by omega)))) (b_one (s_ret (d_str [110, 97, 109, 101] (by decide +kernel)))) b_nil)
    (b_cons (s_if (t_cmp (fun _ _ => op_inA) do_inA (d_var 2) (d_var 1) (by rfl)) (b_one (s_ret (d_str [116, 119, 105, 99, 101] (by decide +kernel)))) b_nil)
    (b_cons (s_if (t_cmp (fun _ _ => op_notInZ hr.units) do_inY (d_var 3) (d_tup (a_cons (d_str [100, 97, 105, 108, 121] (by decide +kernel)) (a_cons (d_str [115, 111, 109, 101] (by decide +kernel)) a_nil))) (by rfl)) (b_one (s_ret (d_str [114, 117, 108, 101] (by decide +kernel)))) b_nil)
    (b_cons (s_if (t_not (t_val (d_call c__law_shape (a_cons (d_var 4) a_nil) hr (by omega)))) (b_one (s_ret (d_str [99, 97, 108, 108, 115] (by decide +kernel)))) b_nil)
    (b_cons (s_for (i_range1 Tx.f_range (a_cons (d_callB (fun _ _ => call_len) db_len Tx.f_len (by decide +kernel) (a_cons (d_var 4) a_nil)) a_nil)) (g_name 5 sc__law_due.nd) (b_cons (s_asg (d_ix (d_var 4) (d_var 5)) (g_tup (gs_cons (g_name 6 sc__law_due.nd) (gs_cons (g_name 7 sc__law_due.nd) (gs_cons (g_name 8 sc__law_due.nd) gs_nil)))))
    (b_cons (s_if (PDw.t (w_or (t_not (t_val (d_call c__law_is_name (a_cons (d_var 6) a_nil) hr (by omega)))) (w_or1 (t_cmp (fun _ _ => op_notInA) do_notInA (d_var 6) (d_var 0) (by rfl))))) (b_one (s_ret (d_str [115, 116, 111, 112] (by decide +kernel)))) b_nil)
    (b_cons (s_if (PDw.t (w_or (t_not (t_val (d_call c__law_among (a_cons (d_var 7) (a_cons d_int (a_cons d_int a_nil))) hr (by omega)))) (w_or1 (t_not (t_val (d_call c__law_among (a_cons (d_var 8) (a_cons d_int (a_cons d_int a_nil))) hr (by omega))))))) (b_one (s_ret (d_str [110, 117, 109, 98, 101, 114] (by decide +kernel)))) b_nil)
    (b_one (s_if (PDw.t (w_or (t_cmp (fun _ _ => op_lt) do_cmp (d_var 8) (d_var 7) (nomark _)) (w_or1 (PDw.t (w_and (t_cmp (fun _ _ => op_gt) do_cmp (d_var 5) d_int (nomark _)) (w_and1 (PDw.t (w_or (t_cmp (fun _ _ => op_eqA hr.units) do_eq (d_var 6) (d_ix (d_ix (d_var 4) (d_op (fun _ _ => op_sub) do_sub (d_var 5) d_int)) d_int) (nomark _)) (w_or1 (t_cmp (fun _ _ => op_le) do_cmp (d_var 7) (d_ix (d_ix (d_var 4) (d_op (fun _ _ => op_sub) do_sub (d_var 5) d_int)) d_int) (nomark _))))))))))) (b_one (s_ret (d_str [99, 97, 108, 108, 115] (by decide +kernel)))) b_nil))))))
    (b_one (s_ret d_non)))))))
end
/-! ### _law_bad_call -/
abbrev N__law_bad_call : List Str := ["_law_call", "_law_ahead", "_law_number", "_law_stop", "_law_arrive", "_law_leave", "_law_odd", "_law_word", "_law_some"]
noncomputable def g__law_bad_call : DS :=
  (sSeq (sAsg (dVar 0) (tgT [(tgN 3), (tgN 4), (tgN 5)]))
    (sSeq (sSet 6 (dOp oIx (dLst (aCons (dUn (fun i => -i) (dC (.int 1))) (aCons (dC (.int 2880)) (aCons (dC (.bl true)) (aCons (dC .non) (aCons (dC (.str [54, 48])) (aCons (dLst (aCons (dC (.int 5)) aNil)) (aCons (dOp oPow (dC (.int 10)) (dC (.int 9))) (aCons (dC (.bl false)) aNil))))))))) (dOp oMod (dOp oDiv (dVar 2) (dC (.int 9))) (dC (.int 8)))))
    (sSeq (sSet 7 (dOp oIx (dLst (aCons (dC (.str [])) (aCons (dC (.str [122, 122, 122, 122, 122, 122, 122, 122])) (aCons (dC .non) (aCons (dC (.int 5)) (aCons (dLst (aCons (dC (.str [97])) aNil)) (aCons (dC (.str [65, 98, 99])) (aCons (dC (.bl true)) (aCons (dC (.dct [] [])) aNil))))))))) (dOp oMod (dOp oDiv (dVar 2) (dC (.int 9))) (dC (.int 8)))))
    (sSeq (sSet 8 (dLst (aCons (dTup (aCons (dVar 7) (aCons (dVar 4) (aCons (dVar 5) aNil)))) (aCons (dTup (aCons (dVar 3) (aCons (dVar 6) (aCons (dVar 5) aNil)))) (aCons (dTup (aCons (dVar 3) (aCons (dVar 4) (aCons (dVar 6) aNil)))) (aCons (dTup (aCons (dOp oIx (dVar 1) (dC (.int 0))) (aCons (dVar 4) (aCons (dVar 5) aNil)))) aNil))))))
    (sSeq (sSet 8 (dOp oAdd (dVar 8) (dLst (aCons (dTup (aCons (dVar 3) (aCons (dOp oIx (dVar 1) (dC (.int 2))) (aCons (dBi bMax2 (aCons (dVar 5) (aCons (dOp oIx (dVar 1) (dC (.int 2))) aNil))) aNil)))) (aCons (dTup (aCons (dVar 3) (aCons (dVar 4) (aCons (dOp oSub (dVar 4) (dC (.int 1))) aNil)))) (aCons (dTup (aCons (dVar 3) (aCons (dVar 4) (aCons (dOp oIx (dVar 1) (dC (.int 2))) aNil)))) aNil))))))
    (sRet (dOp oIx (dOp oAdd (dVar 8) (dLst (aCons (dTup (aCons (dVar 3) (aCons (dOp oSub (dOp oIx (dVar 1) (dC (.int 2))) (dC (.int 1))) (aCons (dVar 5) aNil)))) (aCons (dTup (aCons (dVar 3) (aCons (dVar 4) aNil))) aNil)))) (dOp oMod (dVar 2) (dC (.int 9))))))))))
noncomputable def f__law_bad_call : List D → Sto → Res D := mkF 9 3 g__law_bad_call
theorem sc__law_bad_call : FnScope N__law_bad_call ["_law_call", "_law_ahead", "_law_number"] (defScope s__law_bad_call) := ⟨rfl, rfl, rfl, by decide +kernel, rfl, by decide +kernel, by decide +kernel⟩
section
variable {P : Program} {w : World} {K : PySem.W.Frag} {mg : Str → Option Value} {base : Heap}
theorem b__law_bad_call (Tx : Txt K mg)  {f : Addr} (cdv : Value) (A : Around) (outer : List PySem.Env) (s : Shared) (H : Hp) (E : XK) (hr : Room 0 (A.deeper (PyProof.Rows.envOfC "_law_bad_call" (defScope s__law_bad_call) s.heap.objs.size f cdv))) : PDb (tb K) (cxOf (L2.CX P w) P w (tb K).K mg base N__law_bad_call "_law_bad_call" (defScope s__law_bad_call) f cdv A outer s H E) (defBody s__law_bad_call) (g__law_bad_call) :=
  (b_cons (s_asg (d_var 0) (g_tup (gs_cons (g_name 3 sc__law_bad_call.nd) (gs_cons (g_name 4 sc__law_bad_call.nd) (gs_cons (g_name 5 sc__law_bad_call.nd) gs_nil)))))
    (b_cons (s_set 6 sc__law_bad_call.nd (d_ix (d_lst (a_cons (d_neg d_int) (a_cons d_int (a_cons d_bl (a_cons d_non (a_cons (d_str [54, 48] (by decide +kernel)) (a_cons (d_lst (a_cons d_int a_nil)) (a_cons (d_op (fun _ _ => op_pow) do_pow d_int d_int) (a_cons d_bl a_nil))))))))) (d_op (fun _ _ => op_mod) do_mod (d_op (fun _ _ => op_fdiv) do_div (d_var 2) d_int) d_int)))
    (b_cons (s_set 7 sc__law_bad_call.nd (d_ix (d_lst (a_cons (d_str [] (by decide +kernel)) (a_cons (d_str [122, 122, 122, 122, 122, 122, 122, 122] (by decide +kernel)) (a_cons d_non (a_cons d_int (a_cons (d_lst (a_cons (d_str [97] (by decide +kernel)) a_nil)) (a_cons (d_str [65, 98, 99] (by decide +kernel)) (a_cons d_bl (a_cons d_dct0 a_nil))))))))) (d_op (fun _ _ => op_mod) do_mod (d_op (fun _ _ => op_fdiv) do_div (d_var 2) d_int) d_int)))
    (b_cons (s_set 8 sc__law_bad_call.nd (d_lst (a_cons (d_tup (a_cons (d_var 7) (a_cons (d_var 4) (a_cons (d_var 5) a_nil)))) (a_cons (d_tup (a_cons (d_var 3) (a_cons (d_var 6) (a_cons (d_var 5) a_nil)))) (a_cons (d_tup (a_cons (d_var 3) (a_cons (d_var 4) (a_cons (d_var 6) a_nil)))) (a_cons (d_tup (a_cons (d_ix (d_var 1) d_int) (a_cons (d_var 4) (a_cons (d_var 5) a_nil)))) a_nil))))))
    (b_cons (s_set 8 sc__law_bad_call.nd (d_op (fun _ _ => op_addA) do_add (d_var 8) (d_lst (a_cons (d_tup (a_cons (d_var 3) (a_cons (d_ix (d_var 1) d_int) (a_cons (d_callB (fun _ _ => call_max2 rfl) db_2I Tx.f_max (by decide +kernel) (a_cons (d_var 5) (a_cons (d_ix (d_var 1) d_int) a_nil))) a_nil)))) (a_cons (d_tup (a_cons (d_var 3) (a_cons (d_var 4) (a_cons (d_op (fun _ _ => op_sub) do_sub (d_var 4) d_int) a_nil)))) (a_cons (d_tup (a_cons (d_var 3) (a_cons (d_var 4) (a_cons (d_ix (d_var 1) d_int) a_nil)))) a_nil))))))
    (b_one (s_ret (d_ix (d_op (fun _ _ => op_addA) do_add (d_var 8) (d_lst (a_cons (d_tup (a_cons (d_var 3) (a_cons (d_op (fun _ _ => op_sub) do_sub (d_ix (d_var 1) d_int) d_int) (a_cons (d_var 5) a_nil)))) (a_cons (d_tup (a_cons (d_var 3) (a_cons (d_var 4) a_nil))) a_nil)))) (d_op (fun _ _ => op_mod) do_mod (d_var 2) d_int)))))))))
end
/-! ### _law_spoilt -/
abbrev N__law_spoilt : List Str := ["_law_given", "_law_number", "_law_name_here", "_law_rule", "_law_calls_here", "_law_more", "_law_good", "_law_odd", "_law_at", "_law_call", "_law_ahead", "_law_one"]
noncomputable def g__law_spoilt : DS :=
  (sSeq (sAsg (dVar 0) (tgT [(tgN 2), (tgN 3), (tgN 4)]))
    (sSeq (sSet 5 (dOp oDiv (dVar 1) (dC (.int 8))))
    (sSeq (sIf (tst (dOp oEq (dOp oMod (dVar 1) (dC (.int 8))) (dC (.int 0)))) (sRet (dTup (aCons (dOp oIx (dLst (aCons (dC (.str [])) (aCons (dC (.str [65])) (aCons (dC (.str [97, 98, 99, 100, 101, 102, 103, 104, 105])) (aCons (dC .non) (aCons (dC (.int 5)) (aCons (dLst (aCons (dC (.str [97])) aNil)) (aCons (dC (.str [116, 104, 101, 114, 101])) (aCons (dC (.str [97, 32, 98])) aNil))))))))) (dOp oMod (dVar 5) (dC (.int 8)))) (aCons (dVar 3) (aCons (dVar 4) aNil))))) sPass)
    (sSeq (sIf (tst (dOp oEq (dOp oMod (dVar 1) (dC (.int 8))) (dC (.int 1)))) (sRet (dTup (aCons (dVar 2) (aCons (dOp oIx (dLst (aCons (dC (.str [])) (aCons (dC .non) (aCons (dC (.int 5)) (aCons (dLst (aCons (dC (.str [100, 97, 105, 108, 121])) aNil)) (aCons (dC (.str [111, 116, 104, 101, 114])) (aCons (dC (.str [68, 97, 105, 108, 121])) (aCons (dC (.bl true)) (aCons (dC (.dct [] [])) aNil))))))))) (dOp oMod (dVar 5) (dC (.int 8)))) (aCons (dVar 4) aNil))))) sPass)
    (sSeq (sIf (tOrD (tst (dOp oEq (dOp oMod (dVar 1) (dC (.int 8))) (dC (.int 2)))) (tOrD (tNotD (tst (dBi (bIsO parT parA csT) (aCons (dVar 4) (aCons (dC (.ty "list")) aNil))))) (tst (dOp oLt (dBi bLen (aCons (dVar 4) aNil)) (dC (.int 2)))))) (sSeq (sSet 6 (dIfE (tst (dBi (bIsO parT parA csT) (aCons (dVar 4) (aCons (dC (.ty "list")) aNil)))) (dBi bList (aCons (dVar 4) aNil)) (dLst aNil)))
    (sSeq (sSet 7 (dLst (aCons (dC .non) (aCons (dBi bTuple (aCons (dVar 6) aNil)) (aCons (dLst aNil) (aCons (dSl (dVar 6) pNone (pSome (dC (.int 1)))) (aCons (dOp oMulA (dVar 6) (dC (.int 7))) (aCons (dC (.str [99, 97, 108, 108, 115])) (aCons (dC (.int 5)) (aCons (dC (.dct [] [])) (aCons (dOp oAdd (dVar 6) (dLst (aCons (dC .non) aNil))) (aCons (dOp oAdd (dVar 6) (dLst (aCons (dC (.str [97, 98, 99])) aNil))) aNil))))))))))))
    (sRet (dTup (aCons (dVar 2) (aCons (dVar 3) (aCons (dOp oIx (dOp oAdd (dVar 7) (dLst (aCons (dLc (itAny (dVar 6)) (tgN 11) (tst (dBi (bIsO parT parA csT) (aCons (dVar 11) (aCons (dC (.ty "tuple")) aNil)))) (dBi bList (aCons (dVar 11) aNil)) [11]) aNil))) (dOp oMod (dVar 5) (dC (.int 11)))) aNil))))))) sPass)
    (sSeq (sSet 8 (dOp oMod (dVar 5) (dBi bLen (aCons (dVar 4) aNil))))
    (sSeq (sSet 9 (dOp oIx (dVar 4) (dVar 8)))
    (sSeq (sIf (tOrD (tNotD (tst (dBi (bIsO parT parA csT) (aCons (dVar 9) (aCons (dC (.ty "tuple")) aNil))))) (tst (dOp oNe (dBi bLen (aCons (dVar 9) aNil)) (dC (.int 3))))) (sRet (dTup (aCons (dVar 2) (aCons (dVar 3) (aCons (dVar 4) aNil))))) sPass)
    (sSeq (sSet 10 (dIfE (tst (dOp oGt (dVar 8) (dC (.int 0)))) (dOp oIx (dVar 4) (dOp oSub (dVar 8) (dC (.int 1)))) (dTup (aCons (dOp oIx (dVar 9) (dC (.int 0))) (aCons (dC (.int 0)) (aCons (dC (.int 0)) aNil))))))
    (sSeq (sIf (tOrD (tNotD (tst (dBi (bIsO parT parA csT) (aCons (dVar 10) (aCons (dC (.ty "tuple")) aNil))))) (tst (dOp oNe (dBi bLen (aCons (dVar 10) aNil)) (dC (.int 3))))) (sRet (dTup (aCons (dVar 2) (aCons (dVar 3) (aCons (dVar 4) aNil))))) sPass)
    (sSeq (sIf (tst (dOp oNe (dLc (itAny (dOp oAdd (dSl (dVar 9) (pSome (dC (.int 1))) pNone) (dSl (dVar 10) (pSome (dC (.int 1))) pNone))) (tgN 11) (tNotD (tst (dCall f__law_among (aCons (dVar 11) (aCons (dUn (fun i => -i) (dC (.int 9))) (aCons (dC (.int 9999)) aNil)))))) (dVar 11) [11]) (dLst aNil))) (sRet (dTup (aCons (dVar 2) (aCons (dVar 3) (aCons (dVar 4) aNil))))) sPass)
    (sRet (dTup (aCons (dVar 2) (aCons (dVar 3) (aCons (dOp oAdd (dOp oAdd (dSl (dVar 4) pNone (pSome (dVar 8))) (dLst (aCons (dCall f__law_bad_call (aCons (dVar 9) (aCons (dVar 10) (aCons (dOp oDiv (dVar 5) (dC (.int 6))) aNil)))) aNil))) (dSl (dVar 4) (pSome (dOp oAdd (dVar 8) (dC (.int 1)))) pNone)) aNil))))))))))))))))
noncomputable def f__law_spoilt : List D → Sto → Res D := mkF 12 2 g__law_spoilt
theorem sc__law_spoilt : FnScope N__law_spoilt ["_law_given", "_law_number"] (defScope s__law_spoilt) := ⟨rfl, rfl, rfl, by decide +kernel, rfl, by decide +kernel, by decide +kernel⟩
section
variable {P : Program} {w : World} {K : PySem.W.Frag} {mg : Str → Option Value} {base : Heap}
theorem b__law_spoilt (Tx : Txt K mg) (c__law_among : Cl (tb K) P w mg base "_law_among" 1 3 f__law_among) (c__law_bad_call : Cl (tb K) P w mg base "_law_bad_call" 1 3 f__law_bad_call) {f : Addr} (cdv : Value) (A : Around) (outer : List PySem.Env) (s : Shared) (H : Hp) (E : XK) (hr : Room 1 (A.deeper (PyProof.Rows.envOfC "_law_spoilt" (defScope s__law_spoilt) s.heap.objs.size f cdv))) : PDb (tb K) (cxOf (L2.CX P w) P w (tb K).K mg base N__law_spoilt "_law_spoilt" (defScope s__law_spoilt) f cdv A outer s H E) (defBody s__law_spoilt) (g__law_spoilt) :=
  (b_cons (s_asg (d_var 0) (g_tup (gs_cons (g_name 2 sc__law_spoilt.nd) (gs_cons (g_name 3 sc__law_spoilt.nd) (gs_cons (g_name 4 sc__law_spoilt.nd) gs_nil)))))
    (b_cons (s_set 5 sc__law_spoilt.nd (d_op (fun _ _ => op_fdiv) do_div (d_var 1) d_int))
    (b_cons (s_if (t_cmp (fun _ _ => op_eqA hr.units) do_eq (d_op (fun _ _ => op_mod) do_mod (d_var 1) d_int) d_int (nomark _)) (b_one (s_ret (d_tup (a_cons (d_ix (d_lst (a_cons (d_str [] (by decide +kernel)) (a_cons (d_str [65] (by decide +kernel)) (a_cons (d_str [97, 98, 99, 100, 101, 102, 103, 104, 105] (by decide +kernel)) (a_cons d_non (a_cons d_int (a_cons (d_lst (a_cons (d_str [97] (by decide +kernel)) a_nil)) (a_cons (d_str [116, 104, 101, 114, 101] (by decide +kernel)) (a_cons (d_str [97, 32, 98] (by decide +kernel)) a_nil))))))))) (d_op (fun _ _ => op_mod) do_mod (d_var 5) d_int)) (a_cons (d_var 3) (a_cons (d_var 4) a_nil)))))) b_nil)
    (b_cons (s_if (t_cmp (fun _ _ => op_eqA hr.units) do_eq (d_op (fun _ _ => op_mod) do_mod (d_var 1) d_int) d_int (nomark _)) (b_one (s_ret (d_tup (a_cons (d_var 2) (a_cons (d_ix (d_lst (a_cons (d_str [] (by decide +kernel)) (a_cons d_non (a_cons d_int (a_cons (d_lst (a_cons (d_str [100, 97, 105, 108, 121] (by decide +kernel)) a_nil)) (a_cons (d_str [111, 116, 104, 101, 114] (by decide +kernel)) (a_cons (d_str [68, 97, 105, 108, 121] (by decide +kernel)) (a_cons d_bl (a_cons d_dct0 a_nil))))))))) (d_op (fun _ _ => op_mod) do_mod (d_var 5) d_int)) (a_cons (d_var 4) a_nil)))))) b_nil)
    (b_cons (s_if (PDw.t (w_or (t_cmp (fun _ _ => op_eqA hr.units) do_eq (d_op (fun _ _ => op_mod) do_mod (d_var 1) d_int) d_int (nomark _)) (w_or (t_not (t_val (d_callB (fun _ _ => call_isA) (db_isO Tx.xt Tx.ob Tx.ki) Tx.f_isinstance (by decide +kernel) (a_cons (d_var 4) (a_cons (d_ty "list" Tx.f_list (by decide +kernel)) a_nil))))) (w_or1 (t_cmp (fun _ _ => op_lt) do_cmp (d_callB (fun _ _ => call_len) db_len Tx.f_len (by decide +kernel) (a_cons (d_var 4) a_nil)) d_int (nomark _)))))) (b_cons (s_set 6 sc__law_spoilt.nd (d_ifE (t_val (d_callB (fun _ _ => call_isA) (db_isO Tx.xt Tx.ob Tx.ki) Tx.f_isinstance (by decide +kernel) (a_cons (d_var 4) (a_cons (d_ty "list" Tx.f_list (by decide +kernel)) a_nil)))) (d_callT (fun _ _ => call_list_of) db_list Tx.f_list (by decide +kernel) (a_cons (d_var 4) a_nil)) (d_lst a_nil)))
    (b_cons (s_set 7 sc__law_spoilt.nd (d_lst (a_cons d_non (a_cons (d_callT (fun _ _ => call_tuple_of) db_tuple Tx.f_tuple (by decide +kernel) (a_cons (d_var 6) a_nil)) (a_cons (d_lst a_nil) (a_cons (d_sl (d_var 6) o_none (o_some d_int)) (a_cons (d_op (fun _ _ => op_mulA) do_mulA (d_var 6) d_int) (a_cons (d_str [99, 97, 108, 108, 115] (by decide +kernel)) (a_cons d_int (a_cons d_dct0 (a_cons (d_op (fun _ _ => op_addA) do_add (d_var 6) (d_lst (a_cons d_non a_nil))) (a_cons (d_op (fun _ _ => op_addA) do_add (d_var 6) (d_lst (a_cons (d_str [97, 98, 99] (by decide +kernel)) a_nil))) a_nil))))))))))))
    (b_one (s_ret (d_tup (a_cons (d_var 2) (a_cons (d_var 3) (a_cons (d_ix (d_op (fun _ _ => op_addA) do_add (d_var 7) (d_lst (a_cons (d_lc (own := [("_law_one", 11)]) sc__law_spoilt.nd (i_any (d_var 6)) (blkOk_by (sc := defScope s__law_spoilt) (N := N__law_spoilt) (by decide +kernel)) (fun _ _ _ _ _ => (g_name 11 sc__law_spoilt.nd)) (fun _ _ _ _ _ => ts_one (t_val (d_callB (fun _ _ => call_isA) (db_isO Tx.xt Tx.ob Tx.ki) Tx.f_isinstance (by decide +kernel) (a_cons (d_var 11) (a_cons (d_ty "tuple" Tx.f_tuple (by decide +kernel)) a_nil))))) (fun _ _ _ _ _ => (d_callT (fun _ _ => call_list_of) db_list Tx.f_list (by decide +kernel) (a_cons (d_var 11) a_nil)))) a_nil))) (d_op (fun _ _ => op_mod) do_mod (d_var 5) d_int)) a_nil)))))))) b_nil)
    (b_cons (s_set 8 sc__law_spoilt.nd (d_op (fun _ _ => op_mod) do_mod (d_var 5) (d_callB (fun _ _ => call_len) db_len Tx.f_len (by decide +kernel) (a_cons (d_var 4) a_nil))))
    (b_cons (s_set 9 sc__law_spoilt.nd (d_ix (d_var 4) (d_var 8)))
    (b_cons (s_if (PDw.t (w_or (t_not (t_val (d_callB (fun _ _ => call_isA) (db_isO Tx.xt Tx.ob Tx.ki) Tx.f_isinstance (by decide +kernel) (a_cons (d_var 9) (a_cons (d_ty "tuple" Tx.f_tuple (by decide +kernel)) a_nil))))) (w_or1 (t_cmp (fun _ _ => op_neA hr.units) do_ne (d_callB (fun _ _ => call_len) db_len Tx.f_len (by decide +kernel) (a_cons (d_var 9) a_nil)) d_int (nomark _))))) (b_one (s_ret (d_tup (a_cons (d_var 2) (a_cons (d_var 3) (a_cons (d_var 4) a_nil)))))) b_nil)
    (b_cons (s_set 10 sc__law_spoilt.nd (d_ifE (t_cmp (fun _ _ => op_gt) do_cmp (d_var 8) d_int (nomark _)) (d_ix (d_var 4) (d_op (fun _ _ => op_sub) do_sub (d_var 8) d_int)) (d_tup (a_cons (d_ix (d_var 9) d_int) (a_cons d_int (a_cons d_int a_nil))))))
    (b_cons (s_if (PDw.t (w_or (t_not (t_val (d_callB (fun _ _ => call_isA) (db_isO Tx.xt Tx.ob Tx.ki) Tx.f_isinstance (by decide +kernel) (a_cons (d_var 10) (a_cons (d_ty "tuple" Tx.f_tuple (by decide +kernel)) a_nil))))) (w_or1 (t_cmp (fun _ _ => op_neA hr.units) do_ne (d_callB (fun _ _ => call_len) db_len Tx.f_len (by decide +kernel) (a_cons (d_var 10) a_nil)) d_int (nomark _))))) (b_one (s_ret (d_tup (a_cons (d_var 2) (a_cons (d_var 3) (a_cons (d_var 4) a_nil)))))) b_nil)
    (b_cons (s_if (t_cmp (fun _ _ => op_neA hr.units) do_ne (d_lc (own := [("_law_one", 11)]) sc__law_spoilt.nd (i_any (d_op (fun _ _ => op_addA) do_add (d_sl (d_var 9) (o_some d_int) o_none) (d_sl (d_var 10) (o_some d_int) o_none))) (blkOk_by (sc := defScope s__law_spoilt) (N := N__law_spoilt) (by decide +kernel)) (fun _ _ _ _ _ => (g_name 11 sc__law_spoilt.nd)) (fun _ _ _ _ _ => ts_one (t_not (t_val (d_call c__law_among (a_cons (d_var 11) (a_cons (d_neg d_int) (a_cons d_int a_nil))) hr (by omega))))) (fun _ _ _ _ _ => (d_var 11))) (d_lst a_nil) (nomark _)) (b_one (s_ret (d_tup (a_cons (d_var 2) (a_cons (d_var 3) (a_cons (d_var 4) a_nil)))))) b_nil)
    (b_one (s_ret (d_tup (a_cons (d_var 2) (a_cons (d_var 3) (a_cons (d_op (fun _ _ => op_addA) do_add (d_op (fun _ _ => op_addA) do_add (d_sl (d_var 4) o_none (o_some (d_var 8))) (d_lst (a_cons (d_call c__law_bad_call (a_cons (d_var 9) (a_cons (d_var 10) (a_cons (d_op (fun _ _ => op_fdiv) do_div (d_var 5) d_int) a_nil))) hr (by omega)) a_nil))) (d_sl (d_var 4) (o_some (d_op (fun _ _ => op_addA) do_add (d_var 8) d_int)) o_none)) a_nil)))))))))))))))))
end
/-! ### _law_tried -/
abbrev N__law_tried : List Str := ["_law_net", "_law_given", "_law_calls_here", "_law_found"]
noncomputable def g__law_tried : DS :=
  (sSeq (sSet 2 (dIfE (tst (dBi (bIsO parT parA csT) (aCons (dOp oIx (dVar 1) (dC (.int 2))) (aCons (dC (.ty "list")) aNil)))) (dBi bListC (aCons (dOp oIx (dVar 1) (dC (.int 2))) aNil)) (dOp oIx (dVar 1) (dC (.int 2)))))
    (sSeq (sSet 3 (dLam 0 NN__law_said g__law_said (dMeth 6 [(20, f_Net_add_trip)] (dVar 0) (aCons (dOp oIx (dVar 1) (dC (.int 0))) (aCons (dOp oIx (dVar 1) (dC (.int 1))) (aCons (dVar 2) aNil))))))
    (sSeq (sIf (tst (dBi (bIsO parT parA csT) (aCons (dVar 2) (aCons (dC (.ty "list")) aNil)))) (sDrop (dMt "list" mAppend (dVar 2) (aCons (dTup (aCons (dC (.str [109, 111, 114, 101])) (aCons (dC (.int 1)) (aCons (dC (.int 2)) aNil)))) aNil))) sPass)
    (sRet (dVar 3)))))
noncomputable def f__law_tried : List D → Sto → Res D := mkF 4 2 g__law_tried
theorem sc__law_tried : FnScope N__law_tried ["_law_net", "_law_given"] (defScope s__law_tried) := ⟨rfl, rfl, rfl, by decide +kernel, rfl, by decide +kernel, by decide +kernel⟩
section
variable {P : Program} {w : World} {K : PySem.W.Frag} {mg : Str → Option Value} {base : Heap}
theorem b__law_tried (Tx : Txt K mg) (l__law_said : ClL (tb K) P w mg base "_law_said" 0 3 g__law_said) (tB : LamX.TabB base mg (He.codeOf K ("_law_tried", none)) ((tb K).tb 0).1) (m_Net_add_trip : Mc (tb K) P w mg base 20 "add_trip" 3 4 f_Net_add_trip) {f : Addr} (cdv : Value) (A : Around) (outer : List PySem.Env) (s : Shared) (H : Hp) (E : XK) (hr : Room 6 (A.deeper (PyProof.Rows.envOfC "_law_tried" (defScope s__law_tried) s.heap.objs.size f cdv))) (hcd : cdv = .ref (He.codeOf K ("_law_tried", none))) : PDb (tb K) (cxOf (L2.CX P w) P w (tb K).K mg base N__law_tried "_law_tried" (defScope s__law_tried) f cdv A outer s H E) (defBody s__law_tried) (g__law_tried) :=
  (b_cons (s_set 2 sc__law_tried.nd (d_ifE (t_val (d_callB (fun _ _ => call_isA) (db_isO Tx.xt Tx.ob Tx.ki) Tx.f_isinstance (by decide +kernel) (a_cons (d_ix (d_var 1) d_int) (a_cons (d_ty "list" Tx.f_list (by decide +kernel)) a_nil)))) (d_callT (fun _ _ => call_list_of) db_listC Tx.f_list (by decide +kernel) (a_cons (d_ix (d_var 1) d_int) a_nil)) (d_ix (d_var 1) d_int)))
    (b_cons (s_set 3 sc__law_tried.nd (d_lamcall (k := 4) 0 (l__law_said.up (by omega)) tB rfl hcd hr (LamX.lamS_by (show LamX.lamSB (defScope s__law_tried) _ = true by decide +kernel)) (fun A outer s H E f c1 hr => (d_meth (nF := 6) (j := 4) (tbl := [(20, f_Net_add_trip)]) ⟨⟨m_Net_add_trip.up (by omega), rfl⟩, trivial⟩ nm_add_trip (d_var 0) (a_cons (d_ix (d_var 1) d_int) (a_cons (d_ix (d_var 1) d_int) (a_cons (d_var 2) a_nil))) hr))))
    (b_cons (s_if (t_val (d_callB (fun _ _ => call_isA) (db_isO Tx.xt Tx.ob Tx.ki) Tx.f_isinstance (by decide +kernel) (a_cons (d_var 2) (a_cons (d_ty "list" Tx.f_list (by decide +kernel)) a_nil)))) (b_one (s_expr (d_mt PySem.F.plainAttrs_list PySem.F.slot_list_append PySem.F.type_list_append (fun _ _ => mt_append) dm_append (d_var 2) (a_cons (d_tup (a_cons (d_str [109, 111, 114, 101] (by decide +kernel)) (a_cons d_int (a_cons d_int a_nil)))) a_nil)))) b_nil)
    (b_one (s_ret (d_var 3))))))
end
/-! ### _law_borders -/
abbrev N__law_borders : List Str := ["_law_net", "_law_stops", "_law_one", "_law_other", "_law_good", "_law_row", "_law_bad", "_law_k", "_law_calls_here", "_law_name_here"]
noncomputable def g__law_borders_b1 : DS :=
  (sSeq (sSet 9 (dOp oAdd (dC (.str [103, 111, 111, 100])) (dOp oIx (dC (.str [97, 98, 99, 100])) (dVar 7))))
    (sIf (tOrD (tst (dOp oNe (dCall f__law_tried (aCons (dVar 0) (aCons (dTup (aCons (dVar 9) (aCons (dC (.str [115, 111, 109, 101])) (aCons (dVar 8) aNil)))) aNil))) (dTup (aCons (dC (.str [116, 111, 108, 100])) (aCons (dC .non) aNil))))) (tst (dOp oNe (dFrz (dMeth 6 [(20, f_Net_calls)] (dVar 0) (aCons (dVar 9) aNil))) (dVar 8)))) (sRet (dC (.bl false))) sPass))
noncomputable def g__law_borders : DS :=
  (sSeq (sAsg (dSl (dVar 1) pNone (pSome (dC (.int 2)))) (tgL [(tgN 2), (tgN 3)]))
    (sSeq (sSet 4 (dLstC (aCons (dLst (aCons (dTup (aCons (dVar 2) (aCons (dC (.int 0)) (aCons (dC (.int 0)) aNil)))) (aCons (dTup (aCons (dVar 3) (aCons (dC (.int 1)) (aCons (dC (.int 2879)) aNil)))) aNil))) (aCons (dLst (aCons (dTup (aCons (dVar 2) (aCons (dC (.int 0)) (aCons (dC (.int 5)) aNil)))) (aCons (dTup (aCons (dVar 3) (aCons (dC (.int 6)) (aCons (dC (.int 6)) aNil)))) (aCons (dTup (aCons (dVar 2) (aCons (dC (.int 7)) (aCons (dC (.int 7)) aNil)))) aNil)))) aNil))))
    (sSeq (sDrop (dMt "list" mAppend (dVar 4) (aCons (dLst (aCons (dTup (aCons (dVar 2) (aCons (dC (.int 0)) (aCons (dC (.int 0)) aNil)))) (aCons (dTup (aCons (dVar 3) (aCons (dC (.int 2879)) (aCons (dC (.int 2879)) aNil)))) aNil))) aNil)))
    (sSeq (sSet 5 (dLc (itR1 (aCons (dC (.int 7)) aNil)) (tgN 7) cYes (dTup (aCons (dOp oIx (dLst (aCons (dVar 2) (aCons (dVar 3) aNil))) (dOp oMod (dVar 7) (dC (.int 2)))) (aCons (dOp oMulA (dC (.int 10)) (dVar 7)) (aCons (dOp oAdd (dOp oMulA (dC (.int 10)) (dVar 7)) (dC (.int 9))) aNil)))) [7]))
    (sSeq (sDrop (dMt "list" mAppend (dVar 4) (aCons (dSl (dVar 5) pNone (pSome (dC (.int 6)))) aNil)))
    (sSeq (sFrz 4) (sSeq (sSet 6 (dLst (aCons (dVar 5) (aCons (dSl (dVar 5) pNone (pSome (dC (.int 1)))) (aCons (dLst (aCons (dTup (aCons (dVar 2) (aCons (dC (.int 0)) (aCons (dC (.int 0)) aNil)))) (aCons (dTup (aCons (dVar 3) (aCons (dC (.int 0)) (aCons (dC (.int 1)) aNil)))) aNil))) (aCons (dLst (aCons (dTup (aCons (dVar 2) (aCons (dC (.int 5)) (aCons (dC (.int 4)) aNil)))) (aCons (dTup (aCons (dVar 3) (aCons (dC (.int 6)) (aCons (dC (.int 6)) aNil)))) aNil))) (aCons (dLst (aCons (dTup (aCons (dVar 2) (aCons (dC (.int 1)) (aCons (dC (.int 2)) aNil)))) (aCons (dTup (aCons (dVar 2) (aCons (dC (.int 3)) (aCons (dC (.int 4)) aNil)))) aNil))) aNil)))))))
    (sSeq (sFor (itEnum (aCons (dVar 4) aNil)) (tgT [(tgN 7), (tgN 8)]) g__law_borders_b1)
    (sRet (dOp oEq (dLc (itAny (dVar 6)) (tgN 8) cYes (dCall f__law_tried (aCons (dVar 0) (aCons (dTup (aCons (dC (.str [98, 97, 100])) (aCons (dC (.str [115, 111, 109, 101])) (aCons (dVar 8) aNil)))) aNil))) [8]) (dOp oMulA (dLst (aCons (dC (.str [99, 97, 108, 108, 115])) aNil)) (dC (.int 5)))))))))))))
noncomputable def f__law_borders : List D → Sto → Res D := mkF 10 2 g__law_borders
theorem sc__law_borders : FnScope N__law_borders ["_law_net", "_law_stops"] (defScope s__law_borders) := ⟨rfl, rfl, rfl, by decide +kernel, rfl, by decide +kernel, by decide +kernel⟩
section
variable {P : Program} {w : World} {K : PySem.W.Frag} {mg : Str → Option Value} {base : Heap}
theorem b__law_borders (Tx : Txt K mg) (c__law_tried : Cl (tb K) P w mg base "_law_tried" 7 2 f__law_tried) (m_Net_calls : Mc (tb K) P w mg base 20 "calls" 3 2 f_Net_calls) {f : Addr} (cdv : Value) (A : Around) (outer : List PySem.Env) (s : Shared) (H : Hp) (E : XK) (hr : Room 7 (A.deeper (PyProof.Rows.envOfC "_law_borders" (defScope s__law_borders) s.heap.objs.size f cdv))) : PDb (tb K) (cxOf (L2.CX P w) P w (tb K).K mg base N__law_borders "_law_borders" (defScope s__law_borders) f cdv A outer s H E) (defBody s__law_borders) (g__law_borders) :=
  (b_cons (s_asg (d_sl (d_var 1) o_none (o_some d_int)) (g_lst (gs_cons (g_name 2 sc__law_borders.nd) (gs_cons (g_name 3 sc__law_borders.nd) gs_nil))))
    (b_cons (s_set 4 sc__law_borders.nd (d_lstC (a_cons (d_lst (a_cons (d_tup (a_cons (d_var 2) (a_cons d_int (a_cons d_int a_nil)))) (a_cons (d_tup (a_cons (d_var 3) (a_cons d_int (a_cons d_int a_nil)))) a_nil))) (a_cons (d_lst (a_cons (d_tup (a_cons (d_var 2) (a_cons d_int (a_cons d_int a_nil)))) (a_cons (d_tup (a_cons (d_var 3) (a_cons d_int (a_cons d_int a_nil)))) (a_cons (d_tup (a_cons (d_var 2) (a_cons d_int (a_cons d_int a_nil)))) a_nil)))) a_nil))))
    (b_cons (s_expr (d_mt PySem.F.plainAttrs_list PySem.F.slot_list_append PySem.F.type_list_append (fun _ _ => mt_append) dm_append (d_var 4) (a_cons (d_lst (a_cons (d_tup (a_cons (d_var 2) (a_cons d_int (a_cons d_int a_nil)))) (a_cons (d_tup (a_cons (d_var 3) (a_cons d_int (a_cons d_int a_nil)))) a_nil))) a_nil)))
    (b_cons (s_setLc 5 (own := [("_law_k", 7)]) sc__law_borders.nd (i_range1 Tx.f_range (a_cons d_int a_nil)) (blkOk_by (sc := defScope s__law_borders) (N := N__law_borders) (by decide +kernel)) (fun _ _ _ _ _ => (g_name 7 sc__law_borders.nd)) (fun _ _ _ _ _ => ts_nil) (fun _ _ _ _ _ => (d_tup (a_cons (d_ix (d_lst (a_cons (d_var 2) (a_cons (d_var 3) a_nil))) (d_op (fun _ _ => op_mod) do_mod (d_var 7) d_int)) (a_cons (d_op (fun _ _ => op_mulA) do_mulA d_int (d_var 7)) (a_cons (d_op (fun _ _ => op_addA) do_add (d_op (fun _ _ => op_mulA) do_mulA d_int (d_var 7)) d_int) a_nil))))) (sw_true rfl rfl rfl (by decide +kernel)))
    (b_cons (s_expr (d_mt PySem.F.plainAttrs_list PySem.F.slot_list_append PySem.F.type_list_append (fun _ _ => mt_append) dm_append (d_var 4) (a_cons (d_sl (d_var 5) o_none (o_some d_int)) a_nil)))
    (b_frz 4 (b_cons (s_set 6 sc__law_borders.nd (d_lst (a_cons (d_var 5) (a_cons (d_sl (d_var 5) o_none (o_some d_int)) (a_cons (d_lst (a_cons (d_tup (a_cons (d_var 2) (a_cons d_int (a_cons d_int a_nil)))) (a_cons (d_tup (a_cons (d_var 3) (a_cons d_int (a_cons d_int a_nil)))) a_nil))) (a_cons (d_lst (a_cons (d_tup (a_cons (d_var 2) (a_cons d_int (a_cons d_int a_nil)))) (a_cons (d_tup (a_cons (d_var 3) (a_cons d_int (a_cons d_int a_nil)))) a_nil))) (a_cons (d_lst (a_cons (d_tup (a_cons (d_var 2) (a_cons d_int (a_cons d_int a_nil)))) (a_cons (d_tup (a_cons (d_var 2) (a_cons d_int (a_cons d_int a_nil)))) a_nil))) a_nil)))))))
    (b_cons (s_for (i_enum Tx.f_enumerate (a_cons (d_var 4) a_nil)) (g_tup (gs_cons (g_name 7 sc__law_borders.nd) (gs_cons (g_name 8 sc__law_borders.nd) gs_nil))) (b_cons (s_set 9 sc__law_borders.nd (d_op (fun _ _ => op_addA) do_add (d_str [103, 111, 111, 100] (by decide +kernel)) (d_ix (d_str [97, 98, 99, 100] (by decide +kernel)) (d_var 7))))
    (b_one (s_if (PDw.t (w_or (t_cmp (fun _ _ => op_neA hr.units) do_ne (d_call c__law_tried (a_cons (d_var 0) (a_cons (d_tup (a_cons (d_var 9) (a_cons (d_str [115, 111, 109, 101] (by decide +kernel)) (a_cons (d_var 8) a_nil)))) a_nil)) hr (by omega)) (d_tup (a_cons (d_str [116, 111, 108, 100] (by decide +kernel)) (a_cons d_non a_nil))) (nomark _)) (w_or1 (t_cmp (fun _ _ => op_neA hr.units) do_ne (d_frz (d_meth (nF := 6) (j := 7) (tbl := [(20, f_Net_calls)]) ⟨⟨m_Net_calls.up (by omega), rfl⟩, trivial⟩ nm_calls (d_var 0) (a_cons (d_var 9) a_nil) hr)) (d_var 8) (nomark _))))) (b_one (s_ret d_bl)) b_nil))))
    (b_one (s_ret (d_cmp (fun _ _ => op_eqA hr.units) do_eq (d_lc (own := [("_law_calls_here", 8)]) sc__law_borders.nd (i_any (d_var 6)) (blkOk_by (sc := defScope s__law_borders) (N := N__law_borders) (by decide +kernel)) (fun _ _ _ _ _ => (g_name 8 sc__law_borders.nd)) (fun _ _ _ _ _ => ts_nil) (fun _ _ _ _ _ => (d_call c__law_tried (a_cons (d_var 0) (a_cons (d_tup (a_cons (d_str [98, 97, 100] (by decide +kernel)) (a_cons (d_str [115, 111, 109, 101] (by decide +kernel)) (a_cons (d_var 8) a_nil)))) a_nil)) hr (by omega)))) (d_op (fun _ _ => op_mulA) do_mulA (d_lst (a_cons (d_str [99, 97, 108, 108, 115] (by decide +kernel)) a_nil)) d_int) (nomark _))))))))))))
end
/-! ### law -/
abbrev N_law : List Str := ["_law_script", "_law_seed", "_law_stops", "_law_net", "_law_k", "_law_stop", "_law_taken", "_law_cell", "_law_mixed_here", "_law_name_here", "_law_good", "_law_given", "_law_turn", "_law_due_here", "_law_told"]
noncomputable def g_law_b1 : DS :=
  (sDrop (dMeth 6 [(20, f_Net_add_stop)] (dVar 3) (aCons (dVar 5) (aCons (dOp oAdd (dC (.int 1)) (dVar 4)) (aCons (dVar 4) aNil)))))
noncomputable def g_law_b2 : DS :=
  (sSet 11 (dCall f__law_spoilt (aCons (dVar 11) (aCons (dCall f__law_mixed (aCons (dVar 7) (aCons (dOp oAdd (dOp oAdd (dC (.int 20)) (dOp oMulA (dC (.int 7)) (dVar 4))) (dVar 12)) aNil))) aNil))))
noncomputable def g_law_b3 : DS :=
  (sSeq (sSet 8 (dCall f__law_mixed (aCons (dVar 7) (aCons (dOp oAdd (dC (.int 1)) (dVar 4)) aNil))))
    (sSeq (sSet 9 (dOp oAdd (dC (.str [116, 114, 105, 112])) (dOp oIx (dC (.str [97, 98, 99, 100, 101])) (dVar 4))))
    (sSeq (sSet 10 (dTup (aCons (dVar 9) (aCons (dOp oIx (dLst (aCons (dC (.str [100, 97, 105, 108, 121])) (aCons (dC (.str [115, 111, 109, 101])) aNil))) (dOp oMod (dVar 8) (dC (.int 2)))) (aCons (dCall f__law_calls (aCons (dVar 8) (aCons (dVar 2) (aCons (dOp oAdd (dC (.int 2)) (dOp oMod (dOp oDiv (dVar 8) (dC (.int 2))) (dC (.int 5)))) aNil)))) aNil)))))
    (sSeq (sSet 11 (dVar 10))
    (sSeq (sFor (itR1 (aCons (dOp oMod (dOp oDiv (dVar 8) (dC (.int 10))) (dC (.int 3))) aNil)) (tgN 12) g_law_b2)
    (sSeq (sSet 13 (dCall f__law_due (aCons (dVar 2) (aCons (dVar 6) (aCons (dOp oIx (dVar 11) (dC (.int 0))) (aCons (dOp oIx (dVar 11) (dC (.int 1))) (aCons (dOp oIx (dVar 11) (dC (.int 2))) aNil)))))))
    (sSeq (sIf (tst (dOp oNe (dCall f__law_tried (aCons (dVar 3) (aCons (dVar 11) aNil))) (dIfE (tst (dOp (oIs false) (dVar 13) (dC .non))) (dTup (aCons (dC (.str [116, 111, 108, 100])) (aCons (dC .non) aNil))) (dVar 13)))) (sRet (dC (.bl false))) sPass)
    (sSeq (sIf (tst (dOp (oIs false) (dVar 13) (dC .non))) (sDrop (dMt "list" mAppend (dVar 6) (aCons (dOp oIx (dVar 11) (dC (.int 0))) aNil))) (sIf (tst (dOp oNe (dMeth 6 [(20, f_Net_trips)] (dVar 3) aNil) (dVar 6))) (sRet (dC (.bl false))) sPass))
    (sSeq (sIf (tst (dOp (oInA true) (dVar 9) (dVar 6))) (sSeq (sIf (tst (dOp oNe (dCall f__law_tried (aCons (dVar 3) (aCons (dVar 10) aNil))) (dTup (aCons (dC (.str [116, 111, 108, 100])) (aCons (dC .non) aNil))))) (sRet (dC (.bl false))) sPass)
    (sSeq (sDrop (dMt "list" mAppend (dVar 6) (aCons (dVar 9) aNil)))
    (sSeq (sSet 14 (dMeth 6 [(20, f_Net_calls)] (dVar 3) (aCons (dVar 9) aNil)))
    (sSeq (sIf (tOrD (tNotD (tst (dBi (bIsO parT parA csT) (aCons (dVar 14) (aCons (dC (.ty "list")) aNil))))) (tOrD (tst (dOp oNe (dVar 14) (dOp oIx (dVar 10) (dC (.int 2))))) (tst (dOp oNe (dMeth 6 [(20, f_Net_rule_name)] (dVar 3) (aCons (dVar 9) aNil)) (dOp oIx (dVar 10) (dC (.int 1))))))) (sRet (dC (.bl false))) sPass)
    (sDrop (dMt "list" mClear (dVar 14) aNil)))))) sPass)
    (sIf (tOrD (tst (dOp oNe (dCall f__law_tried (aCons (dVar 3) (aCons (dTup (aCons (dVar 9) (aCons (dOp oIx (dVar 10) (dC (.int 1))) (aCons (dOp oIx (dVar 10) (dC (.int 2))) aNil)))) aNil))) (dC (.str [116, 119, 105, 99, 101])))) (tst (dOp oNe (dMeth 6 [(20, f_Net_trips)] (dVar 3) aNil) (dVar 6)))) (sRet (dC (.bl false))) sPass))))))))))
noncomputable def g_law : DS :=
  (sSeq (sSet 1 (dCall f__law_mixed (aCons (dCall f__law_cell_at (aCons (dVar 0) (aCons (dC (.int 0)) aNil))) (aCons (dC (.int 0)) aNil))))
    (sSeq (sSet 2 (dLc (itR1 (aCons (dOp oAdd (dC (.int 3)) (dOp oMod (dOp oDiv (dVar 1) (dC (.int 5))) (dC (.int 3)))) aNil)) (tgN 4) cYes (dCall f__law_name (aCons (dVar 1) (aCons (dVar 4) aNil))) [4]))
    (sSeq (sSet 3 (dCall (mkO 20 f_Net___init__) aNil))
    (sSeq (sFor (itEnum (aCons (dVar 2) aNil)) (tgT [(tgN 4), (tgN 5)]) g_law_b1)
    (sSeq (sDrop (dMeth 6 [(20, f_Net_add_rule)] (dVar 3) (aCons (dC (.str [100, 97, 105, 108, 121])) (aCons (dC (.obj 18 [] [])) aNil))))
    (sSeq (sDrop (dMeth 6 [(20, f_Net_add_rule)] (dVar 3) (aCons (dC (.str [115, 111, 109, 101])) (aCons (dCall (mkOF 19 f_Week___init__) (aCons (dOp oMod (dVar 1) (dC (.int 128))) aNil)) aNil))))
    (sSeq (sDrop (dMeth 6 [(20, f_Net_add_trip)] (dVar 3) (aCons (dC (.str [116, 104, 101, 114, 101])) (aCons (dC (.str [100, 97, 105, 108, 121])) (aCons (dCall f__law_calls (aCons (dVar 1) (aCons (dVar 2) (aCons (dC (.int 2)) aNil)))) aNil)))))
    (sSeq (sSet 6 (dLstC (aCons (dC (.str [116, 104, 101, 114, 101])) aNil)))
    (sSeq (sFor (itEnum (aCons (dSl (dVar 0) (pSome (dC (.int 1))) (pSome (dC (.int 6)))) aNil)) (tgT [(tgN 4), (tgN 7)]) g_law_b3)
    (sSeq (sFrz 6) (sRet (dIfE (tst (dOp oLt (dBi bLen (aCons (dVar 6) aNil)) (dC (.int 7)))) (dCall f__law_borders (aCons (dVar 3) (aCons (dVar 2) aNil))) (dC (.bl true))))))))))))))
noncomputable def f_law : List D → Sto → Res D := mkF 15 1 g_law
theorem sc_law : FnScope N_law ["_law_script"] (defScope s_law) := ⟨rfl, rfl, rfl, by decide +kernel, rfl, by decide +kernel, by decide +kernel⟩
section
variable {P : Program} {w : World} {K : PySem.W.Frag} {mg : Str → Option Value} {base : Heap}
theorem b_law (Tx : Txt K mg) (c__law_cell_at : Cl (tb K) P w mg base "_law_cell_at" 1 2 f__law_cell_at) (c__law_mixed : Cl (tb K) P w mg base "_law_mixed" 1 2 f__law_mixed) (c__law_name : Cl (tb K) P w mg base "_law_name" 2 2 f__law_name) (c__law_calls : Cl (tb K) P w mg base "_law_calls" 2 3 f__law_calls) (c__law_spoilt : Cl (tb K) P w mg base "_law_spoilt" 2 2 f__law_spoilt) (c__law_due : Cl (tb K) P w mg base "_law_due" 2 5 f__law_due) (c__law_tried : Cl (tb K) P w mg base "_law_tried" 7 2 f__law_tried) (c__law_borders : Cl (tb K) P w mg base "_law_borders" 8 2 f__law_borders) (m_Net_add_stop : Mc (tb K) P w mg base 20 "add_stop" 3 4 f_Net_add_stop) (m_Net_add_rule : Mc (tb K) P w mg base 20 "add_rule" 3 3 f_Net_add_rule) (m_Net_add_trip : Mc (tb K) P w mg base 20 "add_trip" 3 4 f_Net_add_trip) (m_Net_trips : Mc (tb K) P w mg base 20 "trips" 1 1 f_Net_trips) (m_Net_calls : Mc (tb K) P w mg base 20 "calls" 3 2 f_Net_calls) (m_Net_rule_name : Mc (tb K) P w mg base 20 "rule_name" 3 2 f_Net_rule_name) (k_Net : Mkc (tb K) P w mg base 20 "Net" 1 1 f_Net___init__) (k_Week : Mkc (tb K) P w mg base 19 "Week" 2 2 f_Week___init__) {f : Addr} (cdv : Value) (A : Around) (outer : List PySem.Env) (s : Shared) (H : Hp) (E : XK) (hr : Room 8 (A.deeper (PyProof.Rows.envOfC "law" (defScope s_law) s.heap.objs.size f cdv))) : PDb (tb K) (cxOf (L2.CX P w) P w (tb K).K mg base N_law "law" (defScope s_law) f cdv A outer s H E) (defBody s_law) (g_law) :=
  (b_cons (s_set 1 sc_law.nd (d_call c__law_mixed (a_cons (d_call c__law_cell_at (a_cons (d_var 0) (a_cons d_int a_nil)) hr (by omega)) (a_cons d_int a_nil)) hr (by omega)))
    (b_cons (s_setLc 2 (own := [("_law_k", 4)]) sc_law.nd (i_range1 Tx.f_range (a_cons (d_op (fun _ _ => op_addA) do_add d_int (d_op (fun _ _ => op_mod) do_mod (d_op (fun _ _ => op_fdiv) do_div (d_var 1) d_int) d_int)) a_nil)) (blkOk_by (sc := defScope s_law) (N := N_law) (by decide +kernel)) (fun _ _ _ _ _ => (g_name 4 sc_law.nd)) (fun _ _ _ _ _ => ts_nil) (fun _ _ _ _ _ => (d_call c__law_name (a_cons (d_var 1) (a_cons (d_var 4) a_nil)) hr (by omega))) (sw_true rfl rfl rfl (by decide +kernel)))
    (b_cons (s_set 3 sc_law.nd (d_make0 k_Net hr (by omega)))
    (b_cons (s_for (i_enum Tx.f_enumerate (a_cons (d_var 2) a_nil)) (g_tup (gs_cons (g_name 4 sc_law.nd) (gs_cons (g_name 5 sc_law.nd) gs_nil))) (b_one (s_expr (d_meth (nF := 6) (j := 8) (tbl := [(20, f_Net_add_stop)]) ⟨⟨m_Net_add_stop.up (by omega), rfl⟩, trivial⟩ nm_add_stop (d_var 3) (a_cons (d_var 5) (a_cons (d_op (fun _ _ => op_addA) do_add d_int (d_var 4)) (a_cons (d_var 4) a_nil))) hr))))
    (b_cons (s_expr (d_meth (nF := 6) (j := 8) (tbl := [(20, f_Net_add_rule)]) ⟨⟨m_Net_add_rule.up (by omega), rfl⟩, trivial⟩ nm_add_rule (d_var 3) (a_cons (d_str [100, 97, 105, 108, 121] (by decide +kernel)) (a_cons (d_mk0 18 Tx.m0_Rule Tx.c_Rule) a_nil)) hr))
    (b_cons (s_expr (d_meth (nF := 6) (j := 8) (tbl := [(20, f_Net_add_rule)]) ⟨⟨m_Net_add_rule.up (by omega), rfl⟩, trivial⟩ nm_add_rule (d_var 3) (a_cons (d_str [115, 111, 109, 101] (by decide +kernel)) (a_cons (d_makeF k_Week (a_cons (d_op (fun _ _ => op_mod) do_mod (d_var 1) d_int) a_nil) hr (by omega)) a_nil)) hr))
    (b_cons (s_expr (d_meth (nF := 6) (j := 8) (tbl := [(20, f_Net_add_trip)]) ⟨⟨m_Net_add_trip.up (by omega), rfl⟩, trivial⟩ nm_add_trip (d_var 3) (a_cons (d_str [116, 104, 101, 114, 101] (by decide +kernel)) (a_cons (d_str [100, 97, 105, 108, 121] (by decide +kernel)) (a_cons (d_call c__law_calls (a_cons (d_var 1) (a_cons (d_var 2) (a_cons d_int a_nil))) hr (by omega)) a_nil))) hr))
    (b_cons (s_set 6 sc_law.nd (d_lstC (a_cons (d_str [116, 104, 101, 114, 101] (by decide +kernel)) a_nil)))
    (b_cons (s_for (i_enum Tx.f_enumerate (a_cons (d_sl (d_var 0) (o_some d_int) (o_some d_int)) a_nil)) (g_tup (gs_cons (g_name 4 sc_law.nd) (gs_cons (g_name 7 sc_law.nd) gs_nil))) (b_cons (s_set 8 sc_law.nd (d_call c__law_mixed (a_cons (d_var 7) (a_cons (d_op (fun _ _ => op_addA) do_add d_int (d_var 4)) a_nil)) hr (by omega)))
    (b_cons (s_set 9 sc_law.nd (d_op (fun _ _ => op_addA) do_add (d_str [116, 114, 105, 112] (by decide +kernel)) (d_ix (d_str [97, 98, 99, 100, 101] (by decide +kernel)) (d_var 4))))
    (b_cons (s_set 10 sc_law.nd (d_tup (a_cons (d_var 9) (a_cons (d_ix (d_lst (a_cons (d_str [100, 97, 105, 108, 121] (by decide +kernel)) (a_cons (d_str [115, 111, 109, 101] (by decide +kernel)) a_nil))) (d_op (fun _ _ => op_mod) do_mod (d_var 8) d_int)) (a_cons (d_call c__law_calls (a_cons (d_var 8) (a_cons (d_var 2) (a_cons (d_op (fun _ _ => op_addA) do_add d_int (d_op (fun _ _ => op_mod) do_mod (d_op (fun _ _ => op_fdiv) do_div (d_var 8) d_int) d_int)) a_nil))) hr (by omega)) a_nil)))))
    (b_cons (s_set 11 sc_law.nd (d_var 10))
    (b_cons (s_for (i_range1 Tx.f_range (a_cons (d_op (fun _ _ => op_mod) do_mod (d_op (fun _ _ => op_fdiv) do_div (d_var 8) d_int) d_int) a_nil)) (g_name 12 sc_law.nd) (b_one (s_set 11 sc_law.nd (d_call c__law_spoilt (a_cons (d_var 11) (a_cons (d_call c__law_mixed (a_cons (d_var 7) (a_cons (d_op (fun _ _ => op_addA) do_add (d_op (fun _ _ => op_addA) do_add d_int (d_op (fun _ _ => op_mulA) do_mulA d_int (d_var 4))) (d_var 12)) a_nil)) hr (by omega)) a_nil)) hr (by omega)))))
    (b_cons (s_set 13 sc_law.nd (d_call c__law_due (a_cons (d_var 2) (a_cons (d_var 6) (a_cons (d_ix (d_var 11) d_int) (a_cons (d_ix (d_var 11) d_int) (a_cons (d_ix (d_var 11) d_int) a_nil))))) hr (by omega)))
    (b_cons (s_if (t_cmp (fun _ _ => op_neA hr.units) do_ne (d_call c__law_tried (a_cons (d_var 3) (a_cons (d_var 11) a_nil)) hr (by omega)) (d_ifE (t_cmp (fun _ _ => op_isN) do_is (d_var 13) d_non (nomark _)) (d_tup (a_cons (d_str [116, 111, 108, 100] (by decide +kernel)) (a_cons d_non a_nil))) (d_var 13)) (nomark _)) (b_one (s_ret d_bl)) b_nil)
    (b_cons (s_if (t_cmp (fun _ _ => op_isN) do_is (d_var 13) d_non (nomark _)) (b_one (s_expr (d_mt PySem.F.plainAttrs_list PySem.F.slot_list_append PySem.F.type_list_append (fun _ _ => mt_append) dm_append (d_var 6) (a_cons (d_ix (d_var 11) d_int) a_nil)))) (b_one (s_if (t_cmp (fun _ _ => op_neA hr.units) do_ne (d_meth0 (nF := 6) (j := 8) (tbl := [(20, f_Net_trips)]) ⟨⟨m_Net_trips.up (by omega), rfl⟩, trivial⟩ nm_trips (d_var 3) hr) (d_var 6) (nomark _)) (b_one (s_ret d_bl)) b_nil)))
    (b_cons (s_if (t_cmp (fun _ _ => op_notInA) do_notInA (d_var 9) (d_var 6) (by rfl)) (b_cons (s_if (t_cmp (fun _ _ => op_neA hr.units) do_ne (d_call c__law_tried (a_cons (d_var 3) (a_cons (d_var 10) a_nil)) hr (by omega)) (d_tup (a_cons (d_str [116, 111, 108, 100] (by decide +kernel)) (a_cons d_non a_nil))) (nomark _)) (b_one (s_ret d_bl)) b_nil)
    (b_cons (s_expr (d_mt PySem.F.plainAttrs_list PySem.F.slot_list_append PySem.F.type_list_append (fun _ _ => mt_append) dm_append (d_var 6) (a_cons (d_var 9) a_nil)))
    (b_cons (s_set 14 sc_law.nd (d_meth (nF := 6) (j := 8) (tbl := [(20, f_Net_calls)]) ⟨⟨m_Net_calls.up (by omega), rfl⟩, trivial⟩ nm_calls (d_var 3) (a_cons (d_var 9) a_nil) hr))
    (b_cons (s_if (PDw.t (w_or (t_not (t_val (d_callB (fun _ _ => call_isA) (db_isO Tx.xt Tx.ob Tx.ki) Tx.f_isinstance (by decide +kernel) (a_cons (d_var 14) (a_cons (d_ty "list" Tx.f_list (by decide +kernel)) a_nil))))) (w_or (t_cmp (fun _ _ => op_neA hr.units) do_ne (d_var 14) (d_ix (d_var 10) d_int) (nomark _)) (w_or1 (t_cmp (fun _ _ => op_neA hr.units) do_ne (d_meth (nF := 6) (j := 8) (tbl := [(20, f_Net_rule_name)]) ⟨⟨m_Net_rule_name.up (by omega), rfl⟩, trivial⟩ nm_rule_name (d_var 3) (a_cons (d_var 9) a_nil) hr) (d_ix (d_var 10) d_int) (nomark _)))))) (b_one (s_ret d_bl)) b_nil)
    (b_one (s_expr (d_mt0 PySem.F.plainAttrs_list PySem.F.slot_list_clear PySem.F.type_list_clear (fun _ _ => mt_clear) dm_clear (d_var 14)))))))) b_nil)
    (b_one (s_if (PDw.t (w_or (t_cmp (fun _ _ => op_neA hr.units) do_ne (d_call c__law_tried (a_cons (d_var 3) (a_cons (d_tup (a_cons (d_var 9) (a_cons (d_ix (d_var 10) d_int) (a_cons (d_ix (d_var 10) d_int) a_nil)))) a_nil)) hr (by omega)) (d_str [116, 119, 105, 99, 101] (by decide +kernel)) (nomark _)) (w_or1 (t_cmp (fun _ _ => op_neA hr.units) do_ne (d_meth0 (nF := 6) (j := 8) (tbl := [(20, f_Net_trips)]) ⟨⟨m_Net_trips.up (by omega), rfl⟩, trivial⟩ nm_trips (d_var 3) hr) (d_var 6) (nomark _))))) (b_one (s_ret d_bl)) b_nil))))))))))))
    (b_frz 6 (b_one (s_ret (d_ifE (t_cmp (fun _ _ => op_lt) do_cmp (d_callB (fun _ _ => call_len) db_len Tx.f_len (by decide +kernel) (a_cons (d_var 6) a_nil)) d_int (nomark _)) (d_call c__law_borders (a_cons (d_var 3) (a_cons (d_var 2) a_nil)) hr (by omega)) d_bl)))))))))))))
end
end Rb
namespace Rb
open PySem PySem.Spec L2 Mp
theorem seq_step {f g : DS} {δ δ' : Mp.Env} {s s' : Sto} {o : Out} (h1 : f δ s = .nx δ' s') (h2 : g δ' s' = o) : sSeq f g δ s = o := by
  rw [sSeq_eq, h1]
  exact h2
theorem seq_ret {f g : DS} {δ : Mp.Env} {s s' : Sto} {d : D} (h1 : f δ s = .rt d s') : sSeq f g δ s = .rt d s' := by
  rw [sSeq_eq, h1]
  rfl
theorem seq_ex {f g : DS} {δ δ' : Mp.Env} {s s' : Sto} {k : Nat} (h1 : f δ s = .ex k δ' s') : sSeq f g δ s = .ex k δ' s' := by
  rw [sSeq_eq, h1]
  rfl
def mx (c k : Int) : Int := (c % 1000000007 + 7919 * k + 13) * (c % 1000000007 + 7919 * k + 13) % 1000000007 * (c % 1000000007 + 7919 * k + 13) % 998244353 / 11
theorem mx_rng {c k : Int} : 0 ≤ mx c k ∧ mx c k < 100000000 := by
  unfold mx
  omega
theorem p_mixed {c k : Int} {s : Sto} (hk : 0 ≤ k ∧ k < 100000) : f__law_mixed [.int c, .int k] s = .ok (.int (mx c k)) s := by
  have e1 : ∀ i, cMul i (c % 1000000007 + 7919 * k + 13) = true := fun i => cMul_r (by omega)
  have e2 : cMul 7919 k = true := cMul_l (by omega)
  unfold mx
  simp [f__law_mixed, mkF, g__law_mixed, e1, e2]
/-! ### what may stand where a name, a rule, a call, minutes are wanted -/
def tyA : D → Option String
  | .non => some "NoneType"
  | .bl _ => some "bool"
  | .int _ => some "int"
  | .str z => if z.length ≤ 1000 ∧ okS z = true then some "str" else none
  | .lst _ => some "list"
  | .tup _ => some "tuple"
  | .dct _ _ => some "dict"
  | _ => none
def At (d : D) : Prop := (tyA d).isSome = true
theorem At.len {z : List Nat} (h : At (.str z)) : z.length ≤ 1000 ∧ okS z = true := by
  have h' : (if z.length ≤ 1000 ∧ okS z = true then some "str" else none : Option String).isSome = true := h
  split at h'
  · assumption
  · cases h'
theorem kit_tt : kitB "tuple" "tuple" = some true := by decide +kernel
theorem kit_ab : kitB "NoneType" "bool" = some false ∧ kitB "str" "bool" = some false ∧ kitB "list" "bool" = some false ∧ kitB "tuple" "bool" = some false ∧ kitB "dict" "bool" = some false := by decide +kernel
theorem kit_at : kitB "NoneType" "tuple" = some false ∧ kitB "str" "tuple" = some false ∧ kitB "list" "tuple" = some false ∧ kitB "int" "tuple" = some false ∧ kitB "dict" "tuple" = some false ∧ kitB "bool" "tuple" = some false := by decide +kernel
def isS : D → Bool
  | .str _ => true
  | _ => false
def isL : D → Bool
  | .lst _ => true
  | _ => false
def isT : D → Bool
  | .tup _ => true
  | _ => false
def isI : D → Bool
  | .int _ => true
  | .bl _ => true
  | _ => false
theorem iso_s {d : D} {s : Sto} (h : At d) : bIsO parT parA csT [d, .ty "str"] s = .ok (.bl (isS d)) s := by
  cases d <;> first | exact iso_ty (t := "str") rfl kit_ss | exact iso_ty (t := "NoneType") rfl kit_ns | exact iso_ty (t := "int") rfl kit_is | exact iso_ty (t := "bool") rfl kit_bs | exact iso_ty (t := "list") rfl kit_ls | exact iso_ty (t := "tuple") rfl kit_ts | exact iso_ty (t := "dict") rfl kit_ds | exact absurd h (by simp [At, tyA])
theorem iso_l {d : D} {s : Sto} (h : At d) : bIsO parT parA csT [d, .ty "list"] s = .ok (.bl (isL d)) s := by
  cases d <;> first | exact iso_ty (t := "list") rfl kit_ll | exact iso_ty (t := "NoneType") rfl kit_nl | exact iso_ty (t := "int") rfl kit_il | exact iso_ty (t := "bool") rfl kit_bl | exact iso_ty (t := "str") rfl kit_sl | exact iso_ty (t := "tuple") rfl kit_tl | exact iso_ty (t := "dict") rfl kit_dl | exact absurd h (by simp [At, tyA])
theorem iso_t {d : D} {s : Sto} (h : At d) : bIsO parT parA csT [d, .ty "tuple"] s = .ok (.bl (isT d)) s := by
  cases d <;> first | exact iso_ty (t := "tuple") rfl kit_tt | exact iso_ty (t := "NoneType") rfl kit_at.1 | exact iso_ty (t := "str") rfl kit_at.2.1 | exact iso_ty (t := "list") rfl kit_at.2.2.1 | exact iso_ty (t := "int") rfl kit_at.2.2.2.1 | exact iso_ty (t := "dict") rfl kit_at.2.2.2.2.1 | exact iso_ty (t := "bool") rfl kit_at.2.2.2.2.2 | exact absurd h (by simp [At, tyA])
theorem iso_i {d : D} {s : Sto} (h : At d) : bIsO parT parA csT [d, .ty "int"] s = .ok (.bl (isI d)) s := by
  cases d <;> first | exact iso_ty (t := "int") rfl kit_ii | exact iso_ty (t := "bool") rfl kit_bi | exact iso_ty (t := "str") rfl kit_si | exact iso_ty (t := "NoneType") rfl kit_ni | exact iso_ty (t := "list") rfl kit_li | exact iso_ty (t := "tuple") rfl kit_ti | exact iso_ty (t := "dict") rfl kit_di | exact absurd h (by simp [At, tyA])
/-- among -/
def amD (lo hi : Int) : D → Bool
  | .int i => decide (lo ≤ i) && decide (i ≤ hi)
  | _ => false
theorem p_among {d : D} {lo hi : Int} {s : Sto} (h : At d) : f_is_among [d, .int lo, .int hi] s = .ok (.bl (amD lo hi d)) s := by
  have i1 := iso_i (s := s) h
  cases d with
  | int a =>
    have i2 : bIsO parT parA csT [.int a, .ty "bool"] s = .ok (.bl false) s := iso_ty (t := "int") rfl kit_ib
    simp [f_is_among, mkF, g_is_among, i1, i2, amD, isI]
    by_cases h : lo ≤ a <;> simp [h]
  | bl b =>
    have i2 : bIsO parT parA csT [.bl b, .ty "bool"] s = .ok (.bl true) s := iso_ty (t := "bool") rfl kit_bb
    simp [f_is_among, mkF, g_is_among, i1, i2, amD, isI]
  | _ => simp [f_is_among, mkF, g_is_among, i1, amD, isI]
theorem p_lamong {d : D} {lo hi : Int} {s : Sto} (h : At d) : f__law_among [d, .int lo, .int hi] s = .ok (.bl (amD lo hi d)) s := p_among h
/-! ### names -/
abbrev lets : List Nat := [97, 98, 99, 100, 101, 102, 103, 104, 105, 106, 107, 108, 109, 110, 111, 112, 113, 114, 115, 116, 117, 118, 119, 120, 121, 122]
theorem let_at : ∀ i : Fin 26, lets[i.val]? = some (97 + i.val) := by decide
theorem let_atI {i : Int} (h0 : 0 ≤ i) (h1 : i < 26) : atI lets i = some (97 + i.toNat) := by
  rw [atI_int h0 (by show i < 26; exact h1)]
  exact let_at ⟨i.toNat, by omega⟩
theorem sign_in {c : Nat} : decide (c ∈ lets) = (decide (97 ≤ c) && decide (c ≤ 122)) := by
  by_cases h : 97 ≤ c ∧ c ≤ 122
  · have : ∀ i : Fin 26, (97 + i.val) ∈ lets := by decide
    have := this ⟨c - 97, by omega⟩
    simp only at this
    rw [show 97 + (c - 97) = c by omega] at this
    simp only [this, decide_true, h.1, h.2, Bool.and_self]
  · rw [show (decide (97 ≤ c) && decide (c ≤ 122)) = false by simpa using fun a b => h ⟨a, b⟩]
    refine decide_eq_false fun hm => h ?_
    have : ∀ x ∈ lets, 97 ≤ x ∧ x ≤ 122 := by decide
    exact this c hm
def NmOk (z : List Nat) : Prop := z ≠ [] ∧ z.length ≤ 8 ∧ ∀ c ∈ z, 97 ≤ c ∧ c ≤ 122
def nmB (z : List Nat) : Bool := decide (1 ≤ (z.length : Int)) && decide ((z.length : Int) ≤ 8) && z.all fun c => decide (c ∈ lets)
def nmD : D → Bool
  | .str z => nmB z
  | _ => false
theorem nmB_iff {z : List Nat} : nmB z = true ↔ NmOk z := by
  unfold nmB NmOk
  simp only [Bool.and_eq_true, decide_eq_true_eq, List.all_eq_true]
  constructor
  · rintro ⟨⟨h1, h2⟩, h3⟩
    refine ⟨fun e => by rw [e] at h1; simp at h1, by omega, fun c hc => ?_⟩
    have := h3 c hc
    have e := sign_in (c := c)
    rw [decide_eq_true this] at e
    have := e.symm
    simp only [Bool.and_eq_true, decide_eq_true_eq] at this
    exact this
  · rintro ⟨h1, h2, h3⟩
    refine ⟨⟨?_, by omega⟩, fun c hc => ?_⟩
    · have := List.length_pos_iff.mpr h1
      omega
    · have := h3 c hc
      have e := sign_in (c := c)
      rw [decide_eq_true this.1, decide_eq_true this.2] at e
      exact of_decide_eq_true e
theorem bools_map : ∀ L : List Bool, boolsOf (L.map D.bl) = some L
  | [] => rfl
  | b :: L => by
    show (boolsOf (L.map D.bl)).map (b :: ·) = _
    rw [bools_map L]
    rfl
theorem bAll_bools {L : List Bool} {s : Sto} : bAll [.lst (L.map D.bl)] s = .ok (.bl (L.all id)) s := by
  have q : lqOf s (.lst (L.map D.bl)) = some (L.map D.bl) := rfl
  simp only [bAll, bAnyAll, q, bools_map]
theorem p_isname {d : D} {s : Sto} (h : At d) : f_is_name [d] s = .ok (.bl (nmD d)) s := by
  have i1 := iso_s (s := s) h
  have key : g_is_name [some d, none] s = .rt (.bl (nmD d)) s := by
    unfold g_is_name
    cases d with
    | str z =>
      have hz : z.length ≤ lim := by
        have := h.len.1
        rw [lim_eq]; omega
      have i1' : bIsO parT parA csT [.str z, .ty "str"] s = .ok (.bl true) s := i1
      by_cases c1 : (1 : Int) ≤ (z.length : Int) ∧ (z.length : Int) ≤ 8
      · refine seq_step (δ' := [some (.str z), none]) (s' := s) (by simp [i1', hz, c1.1, c1.2]) ?_
        have hc := lcL_map (s := s) (δ := [some (.str z), none]) (t := tgN 1) (e := dOp (oInA false) (dVar 1) (dC (.str lets))) (fun d => match d with | .str [c] => D.bl (decide (c ∈ lets)) | _ => .non) (z.map fun c => D.str [c]) [] (by rw [lim_eq]; simp; omega) (by
          intro d hd
          obtain ⟨c, hc, rfl⟩ := List.mem_map.mp hd
          refine ⟨_, rfl, ?_⟩
          simp only [dOp_eq, dVar_eq, List.set, List.getElem?_cons_succ, List.getElem?_cons_zero, bind_ok, dC_eq, oInA_sign, Bool.false_bne])
        have e2 : (z.map fun c => D.str [c]).map (fun d => match d with | .str [c] => D.bl (decide (c ∈ lets)) | _ => .non) = (z.map fun c => decide (c ∈ lets)).map D.bl := by
          rw [List.map_map, List.map_map]
          rfl
        rw [e2, List.nil_append] at hc
        have ha : bAll [.lst ((z.map fun c => decide (c ∈ lets)).map D.bl)] s = .ok (.bl (nmB z)) s := by
          rw [bAll_bools]
          unfold nmB
          rw [decide_eq_true c1.1, decide_eq_true c1.2, List.all_map]
          rfl
        simp only [sRet_eq, dBi_eq, aCons_eq, dLc_eq, itAny_eq, dVar_eq, List.getElem?_cons_zero, bind_ok, wipeE_cons, wipeE_nil, List.set, aNil_eq]
        rw [hc]
        simp only [bind_ok, ha, out_ok]
        rfl
      · have e0 : nmD (.str z) = false := by
          show nmB z = false
          unfold nmB
          by_cases c2 : (1 : Int) ≤ (z.length : Int)
          · have c3 : ¬ (z.length : Int) ≤ 8 := fun q => c1 ⟨c2, q⟩
            rw [decide_eq_false c3]
            simp
          · rw [decide_eq_false c2]
            simp
        rw [e0]
        refine seq_ret ?_
        by_cases c2 : (1 : Int) ≤ (z.length : Int)
        · have c3 : ¬ (z.length : Int) ≤ 8 := fun q => c1 ⟨c2, q⟩
          simp [i1', hz, c2, c3]
        · simp [i1', hz, c2]
    | _ =>
      refine seq_ret ?_
      simp [i1, isS, nmD]
  show finO s.length (g_is_name [some d, none] s) = _
  rw [key]
  simp
theorem p_lisname {d : D} {s : Sto} (h : At d) : f__law_is_name [d] s = .ok (.bl (nmD d)) s := by
  have i1 := iso_s (s := s) h
  have key : g__law_is_name [some d, none] s = .rt (.bl (nmD d)) s := by
    unfold g__law_is_name
    cases d with
    | str z =>
      have hz : z.length ≤ lim := by
        have := h.len.1
        rw [lim_eq]; omega
      have i1' : bIsO parT parA csT [.str z, .ty "str"] s = .ok (.bl true) s := i1
      by_cases c1 : (1 : Int) ≤ (z.length : Int) ∧ (z.length : Int) ≤ 8
      · refine seq_step (δ' := [some (.str z), none]) (s' := s) (by simp [i1', hz, c1.1, c1.2]) ?_
        have hc := lcL_fil (s := s) (δ := [some (.str z), none]) (t := tgN 1) (c := tst (dOp (oInA true) (dVar 1) (dC (.str lets)))) (e := dVar 1) id (fun d => match d with | .str [c] => !decide (c ∈ lets) | _ => false) (z.map fun c => D.str [c]) [] (by rw [lim_eq]; simp; omega) (by
          intro d hd
          obtain ⟨c, hc, rfl⟩ := List.mem_map.mp hd
          refine ⟨_, rfl, ?_, fun _ => by simp⟩
          simp only [tst_eq, dOp_eq, dVar_eq, List.set, List.getElem?_cons_succ, List.getElem?_cons_zero, bind_ok, dC_eq, oInA_sign]
          rw [Bool.true_bne])
        have e2 : (z.map fun c => D.str [c]).filter (fun d => match d with | .str [c] => !decide (c ∈ lets) | _ => false) = (z.filter fun c => !decide (c ∈ lets)).map fun c => D.str [c] := by
          rw [List.filter_map]
          rfl
        rw [e2, List.map_id, List.nil_append] at hc
        have hd : datDs 63 ((z.filter fun c => !decide (c ∈ lets)).map fun c => D.str [c]) = true := by
          have ok : ∀ c ∈ z.filter (fun c => !decide (c ∈ lets)), c < 1114112 := fun c hc => by
            have := List.all_eq_true.mp h.len.2 c (List.mem_filter.mp hc).1
            exact of_decide_eq_true this
          revert ok
          generalize z.filter (fun c => !decide (c ∈ lets)) = y
          intro ok
          induction y with
          | nil => simp
          | cons c y ih =>
            rw [List.map_cons, datDs_cons, ih fun x hx => ok x (List.mem_cons_of_mem _ hx)]
            simp [okS, ok c List.mem_cons_self]
        have ee : oEqG false (.lst ((z.filter fun c => !decide (c ∈ lets)).map fun c => D.str [c])) (.lst []) s = .ok (.bl (nmB z)) s := by
          rw [oEq_ll hd datDs_nil]
          have : eqDs ((z.filter fun c => !decide (c ∈ lets)).map fun c => D.str [c]) [] = nmB z := by
            unfold nmB
            rw [decide_eq_true c1.1, decide_eq_true c1.2]
            cases q : z.filter (fun c => !decide (c ∈ lets)) with
            | nil =>
              have : z.all (fun c => decide (c ∈ lets)) = true := by
                rw [List.all_eq_true]
                intro c hc
                have := List.filter_eq_nil_iff.mp q c hc
                cases e : decide (c ∈ lets) with
                | true => rfl
                | false => rw [e] at this; exact absurd rfl this
              rw [this]
              rfl
            | cons c y =>
              have hm : c ∈ z.filter (fun c => !decide (c ∈ lets)) := by rw [q]; exact List.mem_cons_self
              have h1 := List.mem_filter.mp hm
              have : z.all (fun c => decide (c ∈ lets)) = false := by
                rw [Bool.eq_false_iff]
                intro a
                have := List.all_eq_true.mp a c h1.1
                rw [this] at h1
                exact absurd h1.2 (by decide)
              rw [this]
              rfl
          rw [this]
          simp
        simp only [sRet_eq, dOp_eq, dLc_eq, itAny_eq, dVar_eq, List.getElem?_cons_zero, bind_ok, wipeE_cons, wipeE_nil, List.set, dLst_eq, aNil_eq]
        rw [hc]
        simp only [bind_ok]
        rw [if_pos (by decide)]
        simp only [bind_ok, ee, out_ok]
        rfl
      · have e0 : nmD (.str z) = false := by
          show nmB z = false
          unfold nmB
          by_cases c2 : (1 : Int) ≤ (z.length : Int)
          · have c3 : ¬ (z.length : Int) ≤ 8 := fun q => c1 ⟨c2, q⟩
            rw [decide_eq_false c3]
            simp
          · rw [decide_eq_false c2]
            simp
        rw [e0]
        refine seq_ret ?_
        by_cases c2 : (1 : Int) ≤ (z.length : Int)
        · have c3 : ¬ (z.length : Int) ≤ 8 := fun q => c1 ⟨c2, q⟩
          simp [i1', hz, c2, c3]
        · simp [i1', hz, c2]
    | _ =>
      refine seq_ret ?_
      simp [i1, isS, nmD]
  show finO s.length (g__law_is_name [some d, none] s) = _
  rw [key]
  simp
end Rb
namespace Rb
open PySem PySem.Spec L2 Mp
def ltr (a : Int) (k : Int) : Nat := 97 + ((a + 3 * k) % 26).toNat
theorem ltr_ok {a k : Int} : 97 ≤ ltr a k ∧ ltr a k ≤ 122 := by
  unfold ltr
  have h1 := Int.emod_nonneg (a + 3 * k) (by decide : (26 : Int) ≠ 0)
  have h2 := Int.emod_lt_of_pos (a + 3 * k) (by decide : (0 : Int) < 26)
  omega
theorem join0 : ∀ ys : List Nat, TL.joinL [] (ys.map fun c => [c]) = ys
  | [] => rfl
  | [c] => rfl
  | c :: d :: ys => by
    have ih := join0 (d :: ys)
    simp only [List.map_cons] at ih ⊢
    show [c] ++ ([] ++ TL.joinL [] ([d] :: ys.map fun c => [c])) = _
    rw [ih]
    rfl
theorem sum1 : ∀ ys : List Nat, ((ys.map fun c => [c]).map List.length).sum = ys.length
  | [] => rfl
  | c :: ys => by
    have := sum1 ys
    simp at this ⊢
    omega
theorem mJoin1 {ys : List Nat} {s : Sto} (h : ys.length ≤ 1000) : mJoin (.str []) [.lst (ys.map fun c => D.str [c])] s = .ok (.str ys) s := by
  have e : ys.map (fun c => D.str [c]) = (ys.map fun c => [c]).map D.str := by rw [List.map_map]; rfl
  rw [e, mJoin_ok (by rw [sum1, lim_eq]; simp; omega), join0]
theorem intsD_map {a : Int} {n : Nat} {α : Type} (f : D → α) : (intsD a n).map f = (List.range n).map fun (i : Nat) => f (.int (a + (i : Int))) := by
  simp [intsD]
theorem mem_ints {a : Int} {n : Nat} {d : D} (h : d ∈ intsD a n) : ∃ i : Nat, i < n ∧ d = .int (a + (i : Int)) := by
  simp [intsD] at h
  obtain ⟨i, h1, h2⟩ := h
  exact ⟨i, h1, h2.symm⟩
theorem cut_take {α : Type} {xs : List α} {i : Nat} (h : i ≤ xs.length) : cutL xs none (some (i : Int)) = xs.take i := by
  have := cutL_to (a := xs.take i) (b := xs.drop i) (i := (i : Int)) (by rw [List.length_take]; omega)
  rw [List.take_append_drop] at this
  exact this
theorem cut_drop {α : Type} {xs : List α} {i : Nat} (h : i ≤ xs.length) : cutL xs (some (i : Int)) none = xs.drop i := by
  have := cutL_from (a := xs.take i) (b := xs.drop i) (i := (i : Int)) (by rw [List.length_take]; omega)
  rw [List.take_append_drop] at this
  exact this
/-! ### names -/
def tl (x : Int) (j : Nat) : Nat := 97 + (mx x (20 + (j : Int)) % 26).toNat
def tail (x : Int) : List Nat := (List.range (x % 7).toNat).map (tl x)
def nmAt (x : Int) : Nat := (x / 7 % ((x % 7) + 1)).toNat
def nmK (x k : Int) : List Nat := (tail x).take (nmAt x) ++ [ltr (x / 56) k] ++ (tail x).drop (nmAt x)
theorem tail_len {x : Int} (hx : 0 ≤ x) : ((tail x).length : Int) = x % 7 := by
  unfold tail
  rw [List.length_map, List.length_range]
  omega
theorem at_le {x : Int} (hx : 0 ≤ x) : nmAt x ≤ (tail x).length ∧ ((nmAt x : Nat) : Int) = x / 7 % (x % 7 + 1) := by
  have h1 := tail_len hx
  have h2 := Int.emod_nonneg (x / 7) (show x % 7 + 1 ≠ 0 by omega)
  have h3 := Int.emod_lt_of_pos (x / 7) (show 0 < x % 7 + 1 by omega)
  unfold nmAt
  omega
theorem nmK_ok {x k : Int} (hx : 0 ≤ x) : NmOk (nmK x k) := by
  have h1 := tail_len hx
  have t : ∀ c ∈ tail x, 97 ≤ c ∧ c ≤ 122 := fun c hc => by
    unfold tail at hc
    obtain ⟨j, _, rfl⟩ := List.mem_map.mp hc
    unfold tl
    have h1 := Int.emod_nonneg (mx x (20 + (j : Int))) (by decide : (26 : Int) ≠ 0)
    have h2 := Int.emod_lt_of_pos (mx x (20 + (j : Int))) (by decide : (0 : Int) < 26)
    omega
  unfold nmK
  refine ⟨by simp, by simp [List.length_take, List.length_drop]; omega, fun c hc => ?_⟩
  rw [List.mem_append, List.mem_append] at hc
  rcases hc with (hc | hc) | hc
  · exact t c (List.mem_of_mem_take hc)
  · rw [List.mem_singleton.mp hc]; exact ltr_ok
  · exact t c (List.mem_of_mem_drop hc)
theorem nmK_inj {x : Int} {i j : Nat} (hi : i < 8) (hj : j < 8) (e : nmK x i = nmK x j) : i = j := by
  unfold nmK at e
  have e2 := List.append_inj_left' e rfl
  have e3 := List.append_cancel_left e2
  have e4 : ltr (x / 56) i = ltr (x / 56) j := by simpa using e3
  unfold ltr at e4
  have h1 := Int.emod_nonneg (x / 56 + 3 * (i : Int)) (by decide : (26 : Int) ≠ 0)
  have h2 := Int.emod_nonneg (x / 56 + 3 * (j : Int)) (by decide : (26 : Int) ≠ 0)
  omega
theorem p_name {x k : Int} {s : Sto} (hx : 0 ≤ x) (hk : 0 ≤ k ∧ k < 100) : f__law_name [.int x, .int k] s = .ok (.str (nmK x k)) s := by
  have tll := tail_len hx
  obtain ⟨a1, a2⟩ := at_le hx
  have sm : small62 (x % 7) = true := by unfold small62; simp; omega
  have r1 := lcL_map (s := s) (δ := [some (.int x), some (.int k), some (.str lets), none, none, none]) (t := tgN 5) (e := dOp oIx (dVar 2) (dOp oMod (dCall f__law_mixed (aCons (dVar 0) (aCons (dOp oAdd (dC (.int 20)) (dVar 5)) aNil))) (dC (.int 26)))) (fun d => match d with | .int j => .str [tl x j.toNat] | _ => .non) (intsD 0 (x % 7).toNat) [] (by rw [lim_eq]; simp [intsD]; omega) (by
    intro d hd
    obtain ⟨j, hj, rfl⟩ := mem_ints hd
    refine ⟨_, rfl, ?_⟩
    have m := p_mixed (c := x) (k := 20 + (j : Int)) (s := s) (by omega)
    have l1 : atI lets (mx x (20 + (j : Int)) % 26) = some (tl x j) := by
      rw [let_atI (Int.emod_nonneg _ (by decide)) (Int.emod_lt_of_pos _ (by decide))]
      rfl
    have ll : lets.length ≤ lim := by decide
    simp [m, l1, lim_eq])
  rw [intsD_map, List.nil_append] at r1
  have e1 : ((List.range (x % 7).toNat).map fun (i : Nat) => (match D.int (0 + (i : Int)) with | .int j => D.str [tl x j.toNat] | _ => .non)) = (tail x).map fun c => D.str [c] := by
    unfold tail
    rw [List.map_map]
    refine List.map_congr_left fun i _ => ?_
    simp
  rw [e1] at r1
  have r2 := mJoin1 (ys := tail x) (s := s) (by omega)
  have l1 : atI lets ((x / 56 + 3 * k) % 26) = some (ltr (x / 56) k) := by
    rw [let_atI (Int.emod_nonneg _ (by decide)) (Int.emod_lt_of_pos _ (by decide))]
    rfl
  have c3 : cMul 3 k = true := cMul_l (by omega)
  have e3 := cut_take (xs := tail x) (i := nmAt x) a1
  have e4 := cut_drop (xs := tail x) (i := nmAt x) a1
  have p1 : 0 < x % 7 + 1 := by omega
  unfold nmK
  rw [a2] at e3 e4
  have w1 : ((tail x).take (nmAt x)).length + 1 ≤ lim := by rw [lim_eq, List.length_take]; omega
  have w2 : ((tail x).take (nmAt x) ++ [ltr (x / 56) k]).length + ((tail x).drop (nmAt x)).length ≤ lim := by rw [lim_eq, List.length_append, List.length_take, List.length_drop]; simp; omega
  have hl : (tail x).length ≤ lim := by rw [lim_eq]; omega
  generalize tail x = T at r1 r2 e3 e4 w1 w2 hl tll
  have key : g__law_name [some (.int x), some (.int k), none, none, none, none] s = .rt (.str (T.take (nmAt x) ++ [ltr (x / 56) k] ++ T.drop (nmAt x))) s := by
    unfold g__law_name
    refine seq_step (δ' := [some (.int x), some (.int k), some (.str lets), none, none, none]) (s' := s) (by simp) ?_
    refine seq_step (δ' := [some (.int x), some (.int k), some (.str lets), some (.str T), none, none]) (s' := s) (by simp [sm, r1, r2]) ?_
    refine seq_step (δ' := [some (.int x), some (.int k), some (.str lets), some (.str T), some (.int (x / 7 % (x % 7 + 1))), none]) (s' := s) (by simp [p1, tll, hl]) ?_
    have ll : lets.length ≤ lim := by decide
    have d2 : decide ((0 : Int) < 26) = true := by decide
    have d1 : (decide ((0 : Int) < 56) && decide ((56 : Int) < 1073741824)) = true := by decide
    have w3 : ((T.take (nmAt x)).length + 1) + (T.drop (nmAt x)).length ≤ lim := by rw [List.length_append, List.length_singleton] at w2; exact w2
    have l26 : 26 ≤ lim := by decide
    have f1 : oAdd (.str (T.take (nmAt x))) (.str [ltr (x / 56) k]) s = .ok (.str (T.take (nmAt x) ++ [ltr (x / 56) k])) s := by rw [oAdd_str, List.length_singleton, if_pos w1]
    have f2 : oAdd (.str (T.take (nmAt x) ++ [ltr (x / 56) k])) (.str (T.drop (nmAt x))) s = .ok (.str (T.take (nmAt x) ++ [ltr (x / 56) k] ++ T.drop (nmAt x))) s := by rw [oAdd_str, if_pos w2]
    simp [oSl_str hl, e3, e4, l1, c3, ll]
    rw [if_pos l26, bind_ok, f1, bind_ok, f2, out_ok]
    simp
  show finO s.length (g__law_name [some (.int x), some (.int k), none, none, none, none] s) = _
  rw [key]
  simp
end Rb
namespace Rb
open PySem PySem.Spec L2 Mp
abbrev Sb (s : Sto) : Prop := s.all (Cell.below s.length) = true
theorem cut_app {s : Sto} {d : D} {c : Cell} (hs : Sb s) (hd : below s.length d = true) : cut s.length d (s ++ [c]) = .ok d s := by
  unfold Mp.cut
  have e : (s ++ [c]).take s.length = s := by simp
  rw [if_neg (by simp), if_pos (by rw [e, hd, hs]; simp), e]
theorem frz_step {δ : Mp.Env} {s : Sto} {i : Nat} {xs : List D} (h : δ[i]? = some (some (.loc s.length))) : sFrz i δ (s ++ [.lst xs]) = .nx (δ.set i (some (.lst xs))) (s ++ [.dead]) := by
  unfold sFrz
  rw [h]
  simp [frzD]
/-! ### calls -/
abbrev Cl3 := List Nat × Int × Int
def cD (c : Cl3) : D := .tup [.str c.1, .int c.2.1, .int c.2.2]
theorem below_cD {n : Nat} : ∀ cs : List Cl3, belows n (cs.map cD) = true
  | [] => rfl
  | c :: cs => by
    rw [List.map_cons]
    show (below n (cD c) && belows n (cs.map cD)) = true
    rw [below_cD cs]
    rfl
/-- calls that rise, behind one at the stop nm that leaves at m -/
def Rise (names : List (List Nat)) : Option (List Nat) → Int → List Cl3 → Prop
  | _, _, [] => True
  | nm, m, c :: cs => c.1 ∈ names ∧ (∀ n, nm = some n → n ≠ c.1) ∧ m < c.2.1 ∧ c.2.1 ≤ c.2.2 ∧ c.2.2 ≤ 2879 ∧ Rise names (some c.1) c.2.2 cs
theorem Rise.mem {names : List (List Nat)} : ∀ {cs : List Cl3} {nm : Option (List Nat)} {m : Int}, Rise names nm m cs → ∀ c ∈ cs, c.1 ∈ names
  | [], _, _, _, c, hc => by cases hc
  | x :: xs, nm, m, h, c, hc => by
    obtain ⟨h1, _, _, _, _, h2⟩ := h
    rcases List.mem_cons.mp hc with rfl | hc
    · exact h1
    · exact Rise.mem h2 c hc
theorem Rise.none {names : List (List Nat)} {cs : List Cl3} {nm : Option (List Nat)} {m : Int} (h : Rise names nm m cs) : Rise names none m cs := by
  cases cs with
  | nil => trivial
  | cons c cs =>
    obtain ⟨h1, _, h2⟩ := h
    exact ⟨h1, (fun n e => nomatch e), h2⟩
theorem nd_at {names : List (List Nat)} (nd : names.Nodup) {i j : Nat} {z : List Nat} (hi : names[i]? = some z) (hj : names[j]? = some z) : i = j := by
  obtain ⟨a1, a2⟩ := List.getElem?_eq_some_iff.mp hi
  obtain ⟨b1, b2⟩ := List.getElem?_eq_some_iff.mp hj
  have p := List.pairwise_iff_getElem.mp nd
  rcases Nat.lt_trichotomy i j with h | h | h
  · exact absurd (a2.trans b2.symm) (p i j a1 b1 h)
  · exact h
  · exact absurd (b2.trans a2.symm) (p j i b1 a1 h)
theorem oNe_sn {x : List Nat} {last : Option (List Nat)} {s : Sto} : oNe (.str x) ((last.map D.str).getD .non) s = .ok (.bl (!decide (some x = last))) s := by
  cases last with
  | none => rfl
  | some y =>
    show oEqG true (.str x) (.str y) s = _
    rw [oEq_str]
    by_cases h : x = y
    · subst h; simp
    · have : ¬ (some x = some y) := fun e => h (Option.some.inj e)
      simp [h]
theorem left_ne {names : List (List Nat)} {last : Option (List Nat)} (nd : names.Nodup) (hn : 2 ≤ names.length) : names.filter (fun x => !decide (some x = last)) ≠ [] := fun e => by
  have h := List.filter_eq_nil_iff.mp e
  have a : ∀ x ∈ names, some x = last := fun x hx => by
    have := h x hx
    simpa using this
  have h0 : 0 < names.length := by omega
  have h1 : 1 < names.length := by omega
  have e0 := a _ (List.getElem_mem h0)
  have e1 := a _ (List.getElem_mem h1)
  have := nd_at nd (i := 0) (j := 1) (z := names[0]) (List.getElem?_eq_getElem h0) (by rw [List.getElem?_eq_getElem h1]; congr 1; exact Option.some.inj (e1.trans e0.symm))
  omega
abbrev lastD (last : Option (List Nat)) : D := (last.map D.str).getD .non
theorem cl_loop {x : Int} {M : Int} {names : List (List Nat)} (nd : names.Nodup) (hn : 2 ≤ names.length ∧ names.length ≤ 8) : ∀ (js : List Int) (last : Option (List Nat)) (t : Int) (o6 o7 o8 o9 o10 o11 : Option D),
    (∀ j ∈ js, 0 ≤ j ∧ j < 10) → 0 ≤ t → t + 45 * js.length ≤ 2879 →
    ∃ (cs : List Cl3) (p4 p5 p6 p7 p8 p9 p10 p11 : Option D), cs.length = js.length ∧ Rise names last t cs ∧ ∀ (s : Sto) (acc : List Cl3), acc.length + js.length ≤ 20 →
      forL (tgN 6) g__law_calls_b1 (js.map D.int) [some (.int x), some (.lst (names.map D.str)), some (.int M), some (.loc s.length), some (.int t), some (lastD last), o6, o7, o8, o9, o10, o11] (s ++ [.lst (acc.map cD)]) =
        .nx [some (.int x), some (.lst (names.map D.str)), some (.int M), some (.loc s.length), p4, p5, p6, p7, p8, p9, p10, p11] (s ++ [.lst ((acc ++ cs).map cD)])
  | [], last, t, o6, o7, o8, o9, o10, o11, _, _, _ => ⟨[], _, _, _, _, _, _, _, _, rfl, trivial, fun s acc _ => by rw [List.append_nil]; rfl⟩
  | j :: js, last, t, o6, o7, o8, o9, o10, o11, hj, hm, hl => by
    rw [List.length_cons] at hl
    push_cast at hl
    have hj0 := hj j List.mem_cons_self
    obtain ⟨y0, y1⟩ := mx_rng (c := x) (k := 50 + j)
    have e1 := fun s => p_mixed (c := x) (k := 50 + j) (s := s) (by omega)
    generalize mx x (50 + j) = y at y0 y1 e1
    have hne := left_ne (last := last) nd hn.1
    have hlen : (names.filter fun x => !decide (some x = last)).length ≤ 8 := Nat.le_trans (List.length_filter_le _ _) hn.2
    have hmem : ∀ z ∈ names.filter (fun x => !decide (some x = last)), z ∈ names ∧ some z ≠ last := fun z hz => by
      obtain ⟨h1, h2⟩ := List.mem_filter.mp hz
      exact ⟨h1, by simpa using h2⟩
    generalize hL : names.filter (fun x => !decide (some x = last)) = L at hne hlen hmem
    have w1 : (0 : Int) < L.length := by
      have := List.length_pos_iff.mpr hne
      omega
    have i0 := Int.emod_nonneg y (show (L.length : Int) ≠ 0 by omega)
    have i1 := Int.emod_lt_of_pos y w1
    have hlt : (y % (L.length : Int)).toNat < L.length := by omega
    obtain ⟨z, hz⟩ : ∃ z, L[(y % (L.length : Int)).toNat]? = some z := ⟨_, List.getElem?_eq_getElem hlt⟩
    obtain ⟨zm, zl⟩ := hmem z (List.mem_of_getElem? hz)
    obtain ⟨a, ha, a0, a1⟩ : ∃ a : Int, a = t + 1 + y / 8 % 40 ∧ t < a ∧ a ≤ t + 40 := ⟨_, rfl, by omega, by omega⟩
    obtain ⟨b, hb, b0, b1⟩ : ∃ b : Int, b = a + y / 320 % 5 ∧ a ≤ b ∧ b ≤ a + 4 := ⟨_, rfl, by omega, by omega⟩
    obtain ⟨cs, p4, p5, p6, p7, p8, p9, p10, p11, g0, g1, g2⟩ := cl_loop (x := x) (M := M) nd hn js (some z) b (some (.int j)) (some (.int y)) (some (.lst (L.map D.str))) (some (.int a)) (some (.int b)) o11 (fun y hy => hj y (List.mem_cons_of_mem _ hy)) (by omega) (by omega)
    refine ⟨(z, a, b) :: cs, p4, p5, p6, p7, p8, p9, p10, p11, by rw [List.length_cons, g0, List.length_cons], ⟨zm, fun n e => by rw [e] at zl; exact fun q => zl (by rw [q]), a0, b0, by show b ≤ 2879; omega, g1⟩, fun s acc hacc => ?_⟩
    rw [List.length_cons] at hacc
    have g := g2 s (acc ++ [(z, a, b)]) (by simp; omega)
    rw [List.append_assoc] at g
    have q1 : atI (L.map D.str) (y % (L.length : Int)) = some (.str z) := by
      rw [atI_int i0 (by rw [List.length_map]; exact i1), List.getElem?_map, hz]
      rfl
    have w3 : acc.length < 1000000 := by omega
    have w1' : 0 < L.length := by omega
    rw [List.map_cons, forL_next (δ1 := [some (.int x), some (.lst (names.map D.str)), some (.int M), some (.loc s.length), some (.int t), some (lastD last), some (.int j), o7, o8, o9, o10, o11]) (δ2 := [some (.int x), some (.lst (names.map D.str)), some (.int M), some (.loc s.length), some (.int b), some (.str z), some (.int j), some (.int y), some (.lst (L.map D.str)), some (.int a), some (.int b), o11]) (s2 := s ++ [.lst ((acc ++ [(z, a, b)]).map cD)]) rfl (by
      have e1' := e1 (s ++ [.lst (acc.map cD)])
      unfold g__law_calls_b1
      refine seq_step (δ' := [some (.int x), some (.lst (names.map D.str)), some (.int M), some (.loc s.length), some (.int t), some (lastD last), some (.int j), some (.int y), o8, o9, o10, o11]) (s' := s ++ [.lst (acc.map cD)]) (by simp [e1']) ?_
      have r := lcL_fil (s := s ++ [.lst (acc.map cD)]) (δ := [some (.int x), some (.lst (names.map D.str)), some (.int M), some (.loc s.length), some (.int t), some (lastD last), some (.int j), some (.int y), o8, o9, o10, none]) (t := tgN 11) (c := tst (dOp oNe (dVar 11) (dVar 5))) (e := dVar 11) id (fun d => match d with | .str w => !decide (some w = last) | _ => false) (names.map D.str) [] (by rw [lim_eq]; simp; omega) (by
        intro d hd
        obtain ⟨w, hw, rfl⟩ := List.mem_map.mp hd
        refine ⟨_, rfl, ?_, fun _ => by simp⟩
        have := oNe_sn (x := w) (last := last) (s := s ++ [.lst (acc.map cD)])
        simp only [tst_eq, dOp_eq, dVar_eq, List.set, List.getElem?_cons_succ, List.getElem?_cons_zero, bind_ok, this])
      have e2 : (names.map D.str).filter (fun d => match d with | .str w => !decide (some w = last) | _ => false) = L.map D.str := by
        rw [← hL, List.filter_map]
        rfl
      rw [e2, List.map_id, List.nil_append] at r
      refine seq_step (δ' := [some (.int x), some (.lst (names.map D.str)), some (.int M), some (.loc s.length), some (.int t), some (lastD last), some (.int j), some (.int y), some (.lst (L.map D.str)), o9, o10, o11]) (s' := s ++ [.lst (acc.map cD)]) (by
        simp only [sSet_eq, dLc_eq, itAny_eq, dVar_eq, List.getElem?_cons_succ, List.getElem?_cons_zero, bind_ok, wipeE_cons, wipeE_nil, List.set]
        rw [r]
        rfl) ?_
      refine seq_step (δ' := [some (.int x), some (.lst (names.map D.str)), some (.int M), some (.loc s.length), some (.int t), some (.str z), some (.int j), some (.int y), some (.lst (L.map D.str)), o9, o10, o11]) (s' := s ++ [.lst (acc.map cD)]) (by simp [w1, w1', q1]) ?_
      refine seq_step (δ' := [some (.int x), some (.lst (names.map D.str)), some (.int M), some (.loc s.length), some (.int t), some (.str z), some (.int j), some (.int y), some (.lst (L.map D.str)), some (.int a), o10, o11]) (s' := s ++ [.lst (acc.map cD)]) (by simp [ha]) ?_
      refine seq_step (δ' := [some (.int x), some (.lst (names.map D.str)), some (.int M), some (.loc s.length), some (.int t), some (.str z), some (.int j), some (.int y), some (.lst (L.map D.str)), some (.int a), some (.int b), o11]) (s' := s ++ [.lst (acc.map cD)]) (by simp [hb]) ?_
      refine seq_step (δ' := [some (.int x), some (.lst (names.map D.str)), some (.int M), some (.loc s.length), some (.int t), some (.str z), some (.int j), some (.int y), some (.lst (L.map D.str)), some (.int a), some (.int b), o11]) (s' := s ++ [.lst ((acc ++ [(z, a, b)]).map cD)]) (by simp [w3, lim_eq, cD]) ?_
      simp)]
    exact g
theorem p_calls {x : Int} {M : Nat} {names : List (List Nat)} (hx : 0 ≤ x) (nd : names.Nodup) (hn : 2 ≤ names.length ∧ names.length ≤ 8) (hM : 2 ≤ M ∧ M ≤ 6) :
    ∃ cs : List Cl3, cs.length = M ∧ (∃ m, 0 ≤ m ∧ Rise names none m cs) ∧ ∀ s : Sto, Sb s → f__law_calls [.int x, .lst (names.map D.str), .int (M : Int)] s = .ok (.lst (cs.map cD)) s := by
  have ei : intsD 0 M = ((List.range M).map fun (i : Nat) => (0 + (i : Int))).map D.int := by simp [intsD]
  have hlen : ((List.range M).map fun (i : Nat) => (0 + (i : Int))).length = M := by simp
  obtain ⟨od, h1, t0, hod, ht0⟩ := atI_ex (xs := [D.int 300, .int 600, .int 1380, .int 2000]) (i := x % 4) (Q := fun d => ∃ t, d = D.int t ∧ 0 ≤ t ∧ t ≤ 2000) (by omega) (by simp; omega) (by simp)
  subst hod
  obtain ⟨t, ht, t1, t2⟩ : ∃ t : Int, t = t0 + x / 4 % 60 ∧ 0 ≤ t ∧ t ≤ 2060 := ⟨_, rfl, by omega, by omega⟩
  obtain ⟨cs, p4, p5, p6, p7, p8, p9, p10, p11, g0, g1, g2⟩ := cl_loop (x := x) (M := (M : Int)) nd hn ((List.range M).map fun (i : Nat) => (0 + (i : Int))) none t none none none none none none (by
    intro j hj
    obtain ⟨i, hi, rfl⟩ := List.mem_map.mp hj
    have := List.mem_range.mp hi
    omega) t1 (by rw [hlen]; omega)
  rw [hlen] at g0
  have sm : small62 (M : Int) = true := by unfold small62; simp; omega
  refine ⟨cs, g0, ⟨t, t1, g1⟩, fun s hs => ?_⟩
  have g := g2 s [] (by rw [hlen]; simp; omega)
  rw [← ei] at g
  have key : g__law_calls [some (.int x), some (.lst (names.map D.str)), some (.int (M : Int)), none, none, none, none, none, none, none, none, none] s = .rt (.lst (cs.map cD)) (s ++ [.dead]) := by
    unfold g__law_calls
    refine seq_step (δ' := [some (.int x), some (.lst (names.map D.str)), some (.int (M : Int)), some (.loc s.length), none, none, none, none, none, none, none, none]) (s' := s ++ [.lst []]) (by simp [lim_eq]) ?_
    refine seq_step (δ' := [some (.int x), some (.lst (names.map D.str)), some (.int (M : Int)), some (.loc s.length), some (.int t), none, none, none, none, none, none, none]) (s' := s ++ [.lst []]) (by simp [h1, lim_eq, ht]) ?_
    refine seq_step (δ' := [some (.int x), some (.lst (names.map D.str)), some (.int (M : Int)), some (.loc s.length), some (.int t), some .non, none, none, none, none, none, none]) (s' := s ++ [.lst []]) (by simp) ?_
    refine seq_step (δ' := [some (.int x), some (.lst (names.map D.str)), some (.int (M : Int)), some (.loc s.length), p4, p5, p6, p7, p8, p9, p10, p11]) (s' := s ++ [.lst (cs.map cD)]) (by
      have rg : itR1 (aCons (dVar 2) aNil) [some (.int x), some (.lst (names.map D.str)), some (.int (M : Int)), some (.loc s.length), some (.int t), some .non, none, none, none, none, none, none] (s ++ [.lst []]) = .ok (intsD 0 M) (s ++ [.lst []]) := by
        have ha : aCons (dVar 2) aNil [some (.int x), some (.lst (names.map D.str)), some (.int (M : Int)), some (.loc s.length), some (.int t), some .non, none, none, none, none, none, none] (s ++ [.lst []]) = .ok [.int (M : Int)] (s ++ [.lst []]) := by
          simp only [aCons_eq, aNil_eq, dVar_eq, List.getElem?_cons_succ, List.getElem?_cons_zero, bind_ok]
        rw [itR1_eq, ha, bind_ok]
        dsimp only
        rw [if_pos sm, Int.toNat_natCast]
      rw [sFor_eq, rg]
      simp only [out_ok]
      exact g) ?_
    refine seq_step (frz_step rfl) ?_
    simp
  show finO s.length (g__law_calls [some (.int x), some (.lst (names.map D.str)), some (.int (M : Int)), none, none, none, none, none, none, none, none, none] s) = _
  rw [key]
  show cut s.length (.lst (cs.map cD)) (s ++ [.dead]) = _
  exact cut_app hs (by show belows _ (cs.map cD) = true; exact below_cD cs)
end Rb
namespace Rb
open PySem PySem.Spec L2 Mp
/-! ### dicts by names -/
abbrev Ps := List (List Nat × D)
abbrev ky (P : Ps) : List D := P.map fun p => D.str p.1
abbrev vl (P : Ps) : List D := P.map fun p => p.2
theorem lk_no {z : List Nat} : ∀ {P : Ps}, z ∉ P.map (·.1) → lkD (.str z) (ky P) (vl P) = none ∧ ((ky P).any fun c => eqK c (.str z)) = false
  | [], _ => ⟨rfl, rfl⟩
  | t :: ts, h => by
    rw [List.map_cons, List.mem_cons, not_or] at h
    obtain ⟨h1, h2⟩ := lk_no (P := ts) h.2
    have e : (t.1 == z) = false := by
      rw [beq_eq_false_iff_ne]
      exact fun q => h.1 q.symm
    refine ⟨?_, ?_⟩
    · show (if eqK (.str t.1) (.str z) = true then _ else lkD (.str z) (ky ts) (vl ts)) = none
      rw [eqK_str, e, if_neg Bool.false_ne_true]
      exact h1
    · show (eqK (.str t.1) (.str z) || (ky ts).any fun c => eqK c (.str z)) = false
      rw [eqK_str, e, h2]
      rfl
theorem lk_yes : ∀ {P : Ps} {t : List Nat × D}, (P.map (·.1)).Nodup → t ∈ P → lkD (.str t.1) (ky P) (vl P) = some t.2
  | [], t, _, h => by cases h
  | u :: ts, t, nd, h => by
    rw [List.map_cons] at nd
    obtain ⟨n1, n2⟩ := List.nodup_cons.mp nd
    show (if eqK (.str u.1) (.str t.1) = true then some u.2 else lkD (.str t.1) (ky ts) (vl ts)) = _
    rcases List.mem_cons.mp h with rfl | h
    · rw [eqK_str, if_pos (by simp)]
    · have : (u.1 == t.1) = false := by
        rw [beq_eq_false_iff_ne]
        exact fun q => n1 (by rw [q]; exact List.mem_map_of_mem h)
      rw [eqK_str, this, if_neg Bool.false_ne_true]
      exact lk_yes n2 h
theorem lk_mem {z : List Nat} : ∀ {P : Ps}, z ∈ P.map (·.1) → ∃ v, lkD (.str z) (ky P) (vl P) = some v
  | [], h => by cases h
  | u :: ts, h => by
    by_cases e : u.1 = z
    · exact ⟨u.2, by show (if eqK (.str u.1) (.str z) = true then some u.2 else _) = _; rw [eqK_str, if_pos (by simpa using e)]⟩
    · rw [List.map_cons] at h
      rcases List.mem_cons.mp h with q | q
      · exact absurd q.symm e
      · obtain ⟨v, hv⟩ := lk_mem q
        refine ⟨v, ?_⟩
        show (if eqK (.str u.1) (.str z) = true then some u.2 else lkD (.str z) (ky ts) (vl ts)) = _
        rw [eqK_str, if_neg (by simpa using e)]
        exact hv
theorem set_new {P : Ps} {z : List Nat} {d : D} (h : z ∉ P.map (·.1)) : setK (.str z) (ky P) = ky (P ++ [(z, d)]) ∧ setD (.str z) d (ky P) (vl P) = vl (P ++ [(z, d)]) := by
  obtain ⟨_, l2⟩ := lk_no h
  constructor
  · unfold setK
    rw [l2]
    simp [ky]
  · unfold setD
    rw [l2]
    simp [vl]
/-! ### the net -/
abbrev NetO : Cell := .obj 20 [1, 2, 3, 4, 5] [.loc 2, .loc 3, .loc 4, .loc 5, .loc 6]
abbrev NetS (A R B : Ps) : Sto := [.tbl 0, NetO, .dct (ky A) (vl A), .lst [], .dct (ky R) (vl R), .dct [] [], .dct (ky B) (vl B)]
structure Nt (A R B : Ps) (s : Sto) : Prop where
  z : s[0]? = some (.tbl 0)
  o : s[1]? = some NetO
  a : s[2]? = some (.dct (ky A) (vl A))
  r : s[4]? = some (.dct (ky R) (vl R))
  b : s[6]? = some (.dct (ky B) (vl B))
theorem nt0 {A R B : Ps} : Nt A R B (NetS A R B) := ⟨rfl, rfl, rfl, rfl, rfl⟩
theorem Nt.far {A R B : Ps} {s : Sto} (h : Nt A R B s) {m : Nat} {c : Cell} (hm : 7 ≤ m) : Nt A R B (s.set m c) :=
  ⟨by rw [List.getElem?_set_ne (by omega)]; exact h.z, by rw [List.getElem?_set_ne (by omega)]; exact h.o, by rw [List.getElem?_set_ne (by omega)]; exact h.a, by rw [List.getElem?_set_ne (by omega)]; exact h.r, by rw [List.getElem?_set_ne (by omega)]; exact h.b⟩
theorem Nt.len {A R B : Ps} {s : Sto} (h : Nt A R B s) : 7 ≤ s.length := by
  have := (List.getElem?_eq_some_iff.mp h.b).1
  omega
theorem Nt.app {A R B : Ps} {s t : Sto} (h : Nt A R B s) : Nt A R B (s ++ t) := by
  have l := h.len
  exact ⟨by rw [List.getElem?_append_left (by omega)]; exact h.z, by rw [List.getElem?_append_left (by omega)]; exact h.o, by rw [List.getElem?_append_left (by omega)]; exact h.a, by rw [List.getElem?_append_left (by omega)]; exact h.r, by rw [List.getElem?_append_left (by omega)]; exact h.b⟩
theorem Nt.put {A R B B' : Ps} {s : Sto} (h : Nt A R B s) : Nt A R B' (s.set 6 (.dct (ky B') (vl B'))) := by
  have l := h.len
  exact ⟨by rw [List.getElem?_set_ne (by omega)]; exact h.z, by rw [List.getElem?_set_ne (by omega)]; exact h.o, by rw [List.getElem?_set_ne (by omega)]; exact h.a, by rw [List.getElem?_set_ne (by omega)]; exact h.r, by rw [List.getElem?_set_self (by omega)]⟩
theorem p_init : mkO 20 f_Net___init__ [] (tbls 1) = .ok (.loc 1) (NetS [] [] []) := by rfl
/-- among the keys -/
def inB (P : Ps) (d : D) : Bool := match d with
  | .str z => decide (z ∈ P.map (·.1))
  | _ => false
theorem nmD_str {d : D} (h : nmD d = true) : ∃ z, d = .str z ∧ NmOk z := by
  cases d with
  | str z => exact ⟨z, rfl, nmB_iff.mp h⟩
  | _ => cases h
theorem at_str {z : List Nat} (h : NmOk z) : At (.str z) := by
  show (if z.length ≤ 1000 ∧ okS z = true then some "str" else none : Option String).isSome = true
  rw [if_pos ⟨by have := h.2.1; omega, by
    unfold okS
    rw [List.all_eq_true]
    intro c hc
    have := h.2.2 c hc
    exact decide_eq_true (by omega)⟩]
  rfl
theorem nmD_of {z : List Nat} (h : NmOk z) : nmD (.str z) = true := nmB_iff.mpr h
theorem p_fresh {P : Ps} {d : D} {n : Nat} {s : Sto} (ha : At d) (h : s[n]? = some (.dct (ky P) (vl P))) :
    f_need_fresh [d, .loc n] s = if nmD d = false then .exc 4 s else if inB P d = true then .exc 5 s else .ok .non s := by
  have e := p_isname (s := s) ha
  cases hn : nmD d with
  | false =>
    rw [hn] at e
    simp [f_need_fresh, mkF, g_need_fresh, e]
  | true =>
    rw [hn] at e
    obtain ⟨z, rfl, hz⟩ := nmD_str hn
    by_cases c : z ∈ P.map (·.1)
    · obtain ⟨v, hv⟩ := lk_mem c
      have : inB P (.str z) = true := decide_eq_true c
      rw [this]
      simp [f_need_fresh, mkF, g_need_fresh, e, h, hv]
    · have : inB P (.str z) = false := decide_eq_false c
      rw [this]
      simp [f_need_fresh, mkF, g_need_fresh, e, h, (lk_no c).1]
theorem p_need {d : D} {lo hi : Int} {s : Sto} (ha : At d) : f_need_among [d, .int lo, .int hi] s = if amD lo hi d = true then .ok .non s else .exc 10 s := by
  have e := p_among (lo := lo) (hi := hi) (s := s) ha
  cases h : amD lo hi d with
  | true => rw [h] at e; simp [f_need_among, mkF, g_need_among, e]
  | false => rw [h] at e; simp [f_need_among, mkF, g_need_among, e]
theorem p_room {P : Ps} {n : Nat} {m : Int} {s : Sto} (h : s[n]? = some (.dct (ky P) (vl P))) (hl : (P.length : Int) < m) : f_need_room [.loc n, .int m] s = .ok .non s := by
  have : ¬ m ≤ P.length := by omega
  simp [f_need_room, mkF, g_need_room, bLenA_loc (n := n) (s := s) h, this]
theorem p_nstop {A R B : Ps} {d : D} {s : Sto} (h : Nt A R B s) (ha : At d) : f_Net_need_stop [.loc 1, d] s = if (nmD d && inB A d) = true then .ok .non s else .exc 6 s := by
  have e := p_isname (s := s) ha
  cases hn : nmD d with
  | false => rw [hn] at e; simp [f_Net_need_stop, mkF, g_Net_need_stop, e]
  | true =>
    rw [hn] at e
    obtain ⟨z, rfl, hz⟩ := nmD_str hn
    by_cases c : z ∈ A.map (·.1)
    · obtain ⟨v, hv⟩ := lk_mem c
      have : inB A (.str z) = true := decide_eq_true c
      rw [this]
      simp [f_Net_need_stop, mkF, g_Net_need_stop, e, h.o, h.a, hv]
    · have : inB A (.str z) = false := decide_eq_false c
      rw [this]
      simp [f_Net_need_stop, mkF, g_Net_need_stop, e, h.o, h.a, (lk_no c).1]
theorem p_nrule {A R B : Ps} {d : D} {s : Sto} (h : Nt A R B s) (ha : At d) : f_Net_need_rule [.loc 1, d] s = if (nmD d && inB R d) = true then .ok .non s else .exc 7 s := by
  have e := p_isname (s := s) ha
  cases hn : nmD d with
  | false => rw [hn] at e; simp [f_Net_need_rule, mkF, g_Net_need_rule, e]
  | true =>
    rw [hn] at e
    obtain ⟨z, rfl, hz⟩ := nmD_str hn
    by_cases c : z ∈ R.map (·.1)
    · obtain ⟨v, hv⟩ := lk_mem c
      have : inB R (.str z) = true := decide_eq_true c
      rw [this]
      simp [f_Net_need_rule, mkF, g_Net_need_rule, e, h.o, h.r, hv]
    · have : inB R (.str z) = false := decide_eq_false c
      rw [this]
      simp [f_Net_need_rule, mkF, g_Net_need_rule, e, h.o, h.r, (lk_no c).1]
theorem p_ntrip {A R B : Ps} {z : List Nat} {s : Sto} (h : Nt A R B s) (hz : NmOk z) (hm : z ∈ B.map (·.1)) : f_Net_need_trip [.loc 1, .str z] s = .ok .non s := by
  obtain ⟨v, hv⟩ := lk_mem hm
  have e := p_isname (s := s) (at_str hz)
  rw [nmD_of hz] at e
  simp [f_Net_need_trip, mkF, g_Net_need_trip, e, h.o, h.b, hv]
/-! ### calls by their form -/
theorem bk_id {s : Sto} {m : Nat} {xs : List D} (hm : s[m]? = some (.lst xs)) : bkS m xs (s.set m .dead) = some s := by
  have hlt := (List.getElem?_eq_some_iff.mp hm).1
  have es : (s.set m .dead).set m (.lst xs) = s := by
    rw [List.set_set]
    apply List.ext_getElem?
    intro i
    by_cases d : m = i
    · subst d; rw [List.getElem?_set_self hlt, hm]
    · rw [List.getElem?_set_ne d]
  unfold bkS
  rw [List.getElem?_set_self hlt]
  simp [es]
def tp3 : D → Bool
  | .tup xs => decide (xs.length = 3)
  | _ => false
def shp (xs : List D) : Bool := decide ((2 : Int) ≤ (xs.length : Int)) && decide ((xs.length : Int) ≤ 6) && xs.all tp3
theorem tp3_ok {d : D} {s : Sto} (h : At d) : (dAndV (dBi (bIsO parT parA csT) (aCons (dVar 1) (aCons (dC (.ty "tuple")) aNil))) (dOp oEq (dBi bLen (aCons (dVar 1) aNil)) (dC (.int 3)))) [o, some d] s = .ok (.bl (tp3 d)) s := by
  have i := iso_t (s := s) h
  cases d with
  | tup xs =>
    simp [i, isT, tp3]
    by_cases c : xs.length = 3 <;> simp [c]
    intro q
    exact c (by omega)
  | _ => simp [i, isT, tp3]
/-- .. of a list, in a cell or not -/
theorem p_arec {xs : List D} {s : Sto} (hx : ∀ x ∈ xs, At x) : f_are_calls [.lst xs] s = .ok (.bl (shp xs)) s ∧ ∀ m, s[m]? = some (.lst xs) → f_are_calls [.loc m] s = .ok (.bl (shp xs)) s := by
  have core : ∀ (d : D) (S : Sto), (2 : Int) ≤ xs.length → (xs.length : Int) ≤ 6 → lcL (tgN 1) cYes (dAndV (dBi (bIsO parT parA csT) (aCons (dVar 1) (aCons (dC (.ty "tuple")) aNil))) (dOp oEq (dBi bLen (aCons (dVar 1) aNil)) (dC (.int 3)))) [some d, none] xs [] S = .ok (.lst ((xs.map tp3).map D.bl)) S := fun d S h1 h2 => by
    have c1 := lcL_map (s := S) (δ := [some d, none]) (t := tgN 1) (e := dAndV (dBi (bIsO parT parA csT) (aCons (dVar 1) (aCons (dC (.ty "tuple")) aNil))) (dOp oEq (dBi bLen (aCons (dVar 1) aNil)) (dC (.int 3)))) (fun d => D.bl (tp3 d)) xs [] (by rw [lim_eq]; simp; omega) (fun x hx' => ⟨_, rfl, tp3_ok (hx x hx')⟩)
    rw [c1, List.nil_append, List.map_map]
    rfl
  have no : ¬ ((2 : Int) ≤ xs.length ∧ (xs.length : Int) ≤ 6) → shp xs = false := fun h => by
    unfold shp
    by_cases c : (2 : Int) ≤ xs.length
    · have : ¬ (xs.length : Int) ≤ 6 := fun q => h ⟨c, q⟩
      rw [decide_eq_false this]; simp
    · rw [decide_eq_false c]; simp
  constructor
  · have i1 : bIsO parT parA csT [.lst xs, .ty "list"] s = .ok (.bl true) s := iso_ty (t := "list") rfl kit_ll
    have key : g_are_calls [some (.lst xs), none] s = .rt (.bl (shp xs)) s := by
      unfold g_are_calls
      by_cases c : (2 : Int) ≤ xs.length ∧ (xs.length : Int) ≤ 6
      · refine seq_step (δ' := [some (.lst xs), none]) (s' := s) (by simp [i1, c.1, c.2]) ?_
        have e : shp xs = (xs.map tp3).all id := by unfold shp; rw [decide_eq_true c.1, decide_eq_true c.2, List.all_map]; rfl
        have := core (.lst xs) s c.1 c.2
        simp only [sRet_eq, dBi_eq, aCons_eq, dVar_eq, List.getElem?_cons_zero, bind_ok, aNil_eq]
        rw [show dLcA (dVar 0) (tgN 1) cYes (dAndV (dBi (bIsO parT parA csT) (aCons (dVar 1) (aCons (dC (.ty "tuple")) aNil))) (dOp oEq (dBi bLen (aCons (dVar 1) aNil)) (dC (.int 3)))) [1] [some (.lst xs), none] s = .ok (.lst ((xs.map tp3).map D.bl)) s from this]
        simp only [bind_ok, bAll_bools, out_ok, e]
      · rw [no c]
        refine seq_ret ?_
        by_cases c2 : (2 : Int) ≤ xs.length
        · have c3 : ¬ (xs.length : Int) ≤ 6 := fun q => c ⟨c2, q⟩
          simp [i1, c2, c3]
        · simp [i1, c2]
    show finO s.length (g_are_calls [some (.lst xs), none] s) = _
    rw [key]
    simp
  · intro m hm
    have hlt := (List.getElem?_eq_some_iff.mp hm).1
    have i1 : bIsO parT parA csT [.loc m, .ty "list"] s = .ok (.bl true) s := iso_ty (t := "list") (by simp [tyOf, hm]) kit_ll
    have ln : bLen [.loc m] s = .ok (.int xs.length) s := by
      unfold bLen
      simp [lqOf, lsOf, hm]
    have key : g_are_calls [some (.loc m), none] s = .rt (.bl (shp xs)) s := by
      unfold g_are_calls
      by_cases c : (2 : Int) ≤ xs.length ∧ (xs.length : Int) ≤ 6
      · refine seq_step (δ' := [some (.loc m), none]) (s' := s) (by simp [i1, ln, c.1, c.2]) ?_
        have e : shp xs = (xs.map tp3).all id := by unfold shp; rw [decide_eq_true c.1, decide_eq_true c.2, List.all_map]; rfl
        have q := core (.loc m) (s.set m .dead) c.1 c.2
        have dd : dLcA (dVar 0) (tgN 1) cYes (dAndV (dBi (bIsO parT parA csT) (aCons (dVar 1) (aCons (dC (.ty "tuple")) aNil))) (dOp oEq (dBi bLen (aCons (dVar 1) aNil)) (dC (.int 3)))) [1] [some (.loc m), none] s = .ok (.lst ((xs.map tp3).map D.bl)) s := by
          unfold dLcA
          simp only [dVar_eq, List.getElem?_cons_zero, bind_ok, itCel, hm]
          show Res.back m xs _ = _
          have w : wipeE [some (.loc m), none] [1] = [some (.loc m), none] := rfl
          rw [w, q]
          show (match bkS m xs (s.set m .dead) with | some s' => Res.ok _ s' | none => Res.stuck) = _
          rw [bk_id hm]
        simp only [sRet_eq, dBi_eq, aCons_eq, dVar_eq, List.getElem?_cons_zero, bind_ok, aNil_eq]
        rw [dd]
        simp only [bind_ok, bAll_bools, out_ok, e]
      · rw [no c]
        refine seq_ret ?_
        by_cases c2 : (2 : Int) ≤ xs.length
        · have c3 : ¬ (xs.length : Int) ≤ 6 := fun q => c ⟨c2, q⟩
          simp [i1, ln, c2, c3]
        · simp [i1, ln, c2]
    show finO s.length (g_are_calls [some (.loc m), none] s) = _
    rw [key]
    simp
theorem p_arec0 {d : D} {s : Sto} (h : At d) (hl : isL d = false) : f_are_calls [d] s = .ok (.bl false) s := by
  have i := iso_l (s := s) h
  rw [hl] at i
  simp [f_are_calls, mkF, g_are_calls, i]
end Rb
namespace Rb
open PySem PySem.Spec L2 Mp
theorem forL_ex {t : DTg} {b : DS} {d : D} {r : List D} {δ δ1 δ2 : Mp.Env} {s s2 : Sto} {k : Nat} (h : t d δ = some δ1) (e : b δ1 s = .ex k δ2 s2) : forL t b (d :: r) δ s = .ex k δ2 s2 := by
  rw [forL_cons, h]
  dsimp only
  rw [e]
/-! ### calls one by one -/
def bump (pv : Option Cl3) (c : Cl3) : Bool := decide (c.2.2 < c.2.1) || (match pv with
  | none => false
  | some p => p.1 == c.1 || decide (c.2.1 ≤ p.2.2))
def pvD : Option Cl3 → D
  | none => .non
  | some c => cD c
theorem p_rises {pv : Option Cl3} {c : Cl3} {s : Sto} : f_rises [pvD pv, cD c] s = .ok (.bl (!bump pv c)) s := by
  by_cases h : c.2.2 < c.2.1
  · simp [f_rises, mkF, g_rises, cD, h, bump]
  · cases pv with
    | none => simp [f_rises, mkF, g_rises, cD, h, bump, pvD]
    | some p =>
      by_cases h1 : p.1 = c.1
      · simp [f_rises, mkF, g_rises, cD, h, bump, pvD, h1]
      · have h1' : (p.1 == c.1) = false := by simpa using h1
        by_cases h2 : p.2.2 < c.2.1
        · have h3 : ¬ c.2.1 ≤ p.2.2 := by omega
          simp [f_rises, mkF, g_rises, cD, h, bump, pvD, h1', h2, h3]
        · have h3 : c.2.1 ≤ p.2.2 := by omega
          simp [f_rises, mkF, g_rises, cD, h, bump, pvD, h1', h2, h3]
def strOf : D → List Nat
  | .str z => z
  | _ => []
def intOf : D → Int
  | .int i => i
  | _ => 0
def dueL (A : Ps) : Option Cl3 → List D → Option Nat
  | _, [] => none
  | pv, .tup [st, a, b] :: r =>
    if (nmD st && inB A st) = false then some 6 else if amD 0 2879 a = false then some 10 else if amD 0 2879 b = false then some 10 else
      if bump pv (strOf st, intOf a, intOf b) = true then some 11 else dueL A (some (strOf st, intOf a, intOf b)) r
  | _, _ :: _ => some 11
def Tp (d : D) : Prop := ∃ st a b, d = .tup [st, a, b] ∧ At st ∧ At a ∧ At b
theorem tp_cD {st a b : D} (h1 : nmD st = true) (h2 : amD 0 2879 a = true) (h3 : amD 0 2879 b = true) : D.tup [st, a, b] = cD (strOf st, intOf a, intOf b) := by
  obtain ⟨z, rfl, _⟩ := nmD_str h1
  cases a with
  | int i =>
    cases b with
    | int j => rfl
    | _ => cases h3
  | _ => cases h2
theorem trip_loop {A R B : Ps} {s : Sto} (h : Nt A R B s) {o1 o2 o3 : Option D} : ∀ (xs : List D) (pv : Option Cl3) (o5 : Option D), (∀ x ∈ xs, Tp x) →
    (dueL A pv xs = none ∧ ∃ pv' p5, forL (tgN 5) g_Net_add_trip_b1 xs [some (.loc 1), o1, o2, o3, some (pvD pv), o5] s = .nx [some (.loc 1), o1, o2, o3, some pv', p5] s) ∨
    (∃ k δ', dueL A pv xs = some k ∧ forL (tgN 5) g_Net_add_trip_b1 xs [some (.loc 1), o1, o2, o3, some (pvD pv), o5] s = .ex k δ' s)
  | [], pv, o5, _ => .inl ⟨rfl, pvD pv, o5, rfl⟩
  | x :: xs, pv, o5, hx => by
    obtain ⟨st, a, b, rfl, h1, h2, h3⟩ := hx x List.mem_cons_self
    have e1 := p_nstop h h1
    have e2 := p_need (lo := 0) (hi := 2879) (s := s) h2
    have e3 := p_need (lo := 0) (hi := 2879) (s := s) h3
    have q0 : oIx (.tup [st, a, b]) (.int 0) s = .ok st s := rfl
    have q1 : oIx (.tup [st, a, b]) (.int 1) s = .ok a s := rfl
    have q2 : oIx (.tup [st, a, b]) (.int 2) s = .ok b s := rfl
    have ob := h.o
    cases c1 : (nmD st && inB A st) with
    | false =>
      refine .inr ⟨6, [some (.loc 1), o1, o2, o3, some (pvD pv), some (.tup [st, a, b])], by simp [dueL, c1], forL_ex rfl ?_⟩
      rw [c1] at e1
      simp [g_Net_add_trip_b1, dMeth_eq, List.lookup, ob, e1, q0]
    | true =>
      rw [c1] at e1
      simp only [if_true] at e1
      cases c2 : amD 0 2879 a with
      | false =>
        refine .inr ⟨10, [some (.loc 1), o1, o2, o3, some (pvD pv), some (.tup [st, a, b])], by simp [dueL, c1, c2], forL_ex rfl ?_⟩
        rw [c2] at e2
        simp [g_Net_add_trip_b1, dMeth_eq, List.lookup, ob, e1, e2, q0, q1]
      | true =>
        rw [c2] at e2
        simp only [if_true] at e2
        cases c3 : amD 0 2879 b with
        | false =>
          refine .inr ⟨10, [some (.loc 1), o1, o2, o3, some (pvD pv), some (.tup [st, a, b])], by simp [dueL, c1, c2, c3], forL_ex rfl ?_⟩
          rw [c3] at e3
          simp [g_Net_add_trip_b1, dMeth_eq, List.lookup, ob, e1, e2, e3, q0, q1, q2]
        | true =>
          rw [c3] at e3
          simp only [if_true] at e3
          have n1 : nmD st = true := by
            rw [Bool.and_eq_true] at c1
            exact c1.1
          have ec := tp_cD n1 c2 c3
          have e4 := p_rises (pv := pv) (c := (strOf st, intOf a, intOf b)) (s := s)
          rw [← ec] at e4
          cases c4 : bump pv (strOf st, intOf a, intOf b) with
          | true =>
            refine .inr ⟨11, [some (.loc 1), o1, o2, o3, some (pvD pv), some (.tup [st, a, b])], by simp [dueL, c1, c2, c3, c4], forL_ex rfl ?_⟩
            rw [c4] at e4
            simp [g_Net_add_trip_b1, dMeth_eq, List.lookup, ob, e1, e2, e3, e4, q0, q1, q2]
          | false =>
            rw [c4] at e4
            have st1 : forL (tgN 5) g_Net_add_trip_b1 (.tup [st, a, b] :: xs) [some (.loc 1), o1, o2, o3, some (pvD pv), o5] s = forL (tgN 5) g_Net_add_trip_b1 xs [some (.loc 1), o1, o2, o3, some (pvD (some (strOf st, intOf a, intOf b))), some (.tup [st, a, b])] s := by
              refine forL_next (δ1 := [some (.loc 1), o1, o2, o3, some (pvD pv), some (.tup [st, a, b])]) rfl ?_
              have : pvD (some (strOf st, intOf a, intOf b)) = .tup [st, a, b] := ec.symm
              rw [this]
              simp [g_Net_add_trip_b1, dMeth_eq, List.lookup, ob, e1, e2, e3, e4, q0, q1, q2]
            have due1 : dueL A pv (.tup [st, a, b] :: xs) = dueL A (some (strOf st, intOf a, intOf b)) xs := by simp [dueL, c1, c2, c3, c4]
            rw [st1, due1]
            exact trip_loop h xs _ _ fun y hy => hx y (List.mem_cons_of_mem _ hy)
/-! ### the whole refusal -/
/-- what a trip's calls may be: a list, or what is none -/
def Cs (c : D) : Prop := At c ∧ ∀ xs, c = .lst xs → ∀ x ∈ xs, At x ∧ ∀ ys, x = .tup ys → ∀ y ∈ ys, At y
theorem shp_tp {xs : List D} (hx : ∀ x ∈ xs, At x ∧ ∀ ys, x = .tup ys → ∀ y ∈ ys, At y) (h : shp xs = true) : (2 ≤ xs.length ∧ xs.length ≤ 6) ∧ ∀ x ∈ xs, Tp x := by
  unfold shp at h
  simp only [Bool.and_eq_true, decide_eq_true_eq, List.all_eq_true] at h
  obtain ⟨⟨h1, h2⟩, h3⟩ := h
  refine ⟨by omega, fun x hx' => ?_⟩
  have t := h3 x hx'
  obtain ⟨_, k⟩ := hx x hx'
  cases x with
  | tup ys =>
    have l : ys.length = 3 := of_decide_eq_true t
    have k := k ys rfl
    match ys, l, k with
    | [a, b, c], _, k => exact ⟨a, b, c, rfl, k a (by simp), k b (by simp), k c (by simp)⟩
  | _ => cases t
def dueC (A : Ps) : D → Option Nat
  | .lst xs => if shp xs = false then some 11 else dueL A none xs
  | _ => some 11
def shpD : D → Bool
  | .lst xs => shp xs
  | _ => false
def dueT (A R B : Ps) (n r c : D) : Option Nat :=
  if nmD n = false then some 4 else if inB B n = true then some 5 else if (nmD r && inB R r) = false then some 7 else dueC A c
def callsOf : D → List D
  | .lst xs => xs
  | _ => []
def addB (B : Ps) (n r c : D) : Ps := B ++ [(strOf n, .tup [r, .tup (callsOf c)])]
section
variable {A R B : Ps} {s : Sto}
theorem fin_ex {k : Nat} {δ : Mp.Env} : finO s.length (.ex k δ s) = .exc k s := by
  show cutX s.length k s = _
  unfold cutX
  rw [if_pos rfl]
theorem p_addtrip (h : Nt A R B s) {n r c : D} (hn : At n) (hr : At r) (hc : Cs c) (hl : dueT A R B n r c = none → B.length < 10) {c' : D} (h' : (c' = c ∧ isL c = false) ∨ (c' = c ∧ True) ∨ ∃ m xs, c' = .loc m ∧ c = .lst xs ∧ s[m]? = some (.lst xs) ∧ 7 ≤ m) :
    f_Net_add_trip [.loc 1, n, r, c'] s = match dueT A R B n r c with
      | some k => .exc k s
      | none => .ok .non (s.set 6 (.dct (ky (addB B n r c)) (vl (addB B n r c)))) := by
  have e1 := p_fresh (n := 6) (P := B) (s := s) hn h.b
  have e2 := p_nrule h hr
  have ob := h.o
  have ac : f_are_calls [c'] s = .ok (.bl (shpD c)) s := by
    rcases h' with ⟨rfl, h0⟩ | ⟨rfl, _⟩ | ⟨m, xs, rfl, rfl, hm, _⟩
    · have := p_arec0 (s := s) hc.1 h0
      cases c' <;> first | exact this | cases h0
    · cases c' with
      | lst xs => exact (p_arec fun x hx => (hc.2 xs rfl x hx).1).1
      | _ => exact p_arec0 (s := s) hc.1 rfl
    · exact (p_arec fun x hx => (hc.2 xs rfl x hx).1).2 m hm
  show finO s.length (g_Net_add_trip [some (.loc 1), some n, some r, some c', none, none] s) = _
  unfold dueT
  cases k1 : nmD n with
  | false =>
    rw [k1] at e1
    have : g_Net_add_trip [some (.loc 1), some n, some r, some c', none, none] s = .ex 4 [some (.loc 1), some n, some r, some c', none, none] s := by
      unfold g_Net_add_trip
      exact seq_ex (by simp [ob, e1])
    rw [this, fin_ex]
    simp
  | true =>
    rw [k1] at e1
    simp only [Bool.true_eq_false, if_false] at e1 ⊢
    cases k2 : inB B n with
    | true =>
      rw [k2] at e1
      have : g_Net_add_trip [some (.loc 1), some n, some r, some c', none, none] s = .ex 5 [some (.loc 1), some n, some r, some c', none, none] s := by
        unfold g_Net_add_trip
        exact seq_ex (by simp [ob, e1])
      rw [this, fin_ex]
      simp
    | false =>
      rw [k2] at e1
      simp only [Bool.false_eq_true, if_false] at e1 ⊢
      have g1 : (sDrop (dCall f_need_fresh (aCons (dVar 1) (aCons (dFld csT 6 5 (dVar 0)) aNil)))) [some (.loc 1), some n, some r, some c', none, none] s = .nx [some (.loc 1), some n, some r, some c', none, none] s := by simp [ob, e1]
      cases k3 : (nmD r && inB R r) with
      | false =>
        rw [k3] at e2
        have : g_Net_add_trip [some (.loc 1), some n, some r, some c', none, none] s = .ex 7 [some (.loc 1), some n, some r, some c', none, none] s := by
          unfold g_Net_add_trip
          refine seq_step g1 (seq_ex ?_)
          simp [dMeth_eq, List.lookup, ob, e2]
        rw [this, fin_ex]
        simp
      | true =>
        rw [k3] at e2
        simp only [if_true] at e2
        simp only [Bool.true_eq_false, if_false]
        have g2 : (sDrop (dMeth 6 [(20, f_Net_need_rule)] (dVar 0) (aCons (dVar 2) aNil))) [some (.loc 1), some n, some r, some c', none, none] s = .nx [some (.loc 1), some n, some r, some c', none, none] s := by simp [dMeth_eq, List.lookup, ob, e2]
        have bad : (shpD c) = false → g_Net_add_trip [some (.loc 1), some n, some r, some c', none, none] s = .ex 11 [some (.loc 1), some n, some r, some c', none, none] s := fun q => by
          rw [q] at ac
          unfold g_Net_add_trip
          refine seq_step g1 (seq_step g2 (seq_ex ?_))
          simp [ac]
        cases c with
        | lst xs =>
          cases k4 : shp xs with
          | false =>
            rw [bad k4, fin_ex]
            simp [dueC, k4]
          | true =>
            have ac' : f_are_calls [c'] s = .ok (.bl true) s := by rw [ac]; simp [shpD, k4]
            obtain ⟨_, tp⟩ := shp_tp (hc.2 xs rfl) k4
            have g3 : (sIf (tNotD (tst (dCall f_are_calls (aCons (dVar 3) aNil)))) (sRaise 11) sPass) [some (.loc 1), some n, some r, some c', none, none] s = .nx [some (.loc 1), some n, some r, some c', none, none] s := by simp [ac']
            have g4 : (sSet 4 (dC .non)) [some (.loc 1), some n, some r, some c', none, none] s = .nx [some (.loc 1), some n, some r, some c', some (pvD none), none] s := by simp [pvD]
            -- the walk
            have walk : (dueL A none xs = none ∧ ∃ pv' p5, sForA (dVar 3) (tgN 5) g_Net_add_trip_b1 [some (.loc 1), some n, some r, some c', some (pvD none), none] s = .nx [some (.loc 1), some n, some r, some c', some pv', p5] s) ∨
                (∃ k δ', dueL A none xs = some k ∧ sForA (dVar 3) (tgN 5) g_Net_add_trip_b1 [some (.loc 1), some n, some r, some c', some (pvD none), none] s = .ex k δ' s) := by
              have plain : c' = .lst xs → (dueL A none xs = none ∧ ∃ pv' p5, sForA (dVar 3) (tgN 5) g_Net_add_trip_b1 [some (.loc 1), some n, some r, some c', some (pvD none), none] s = .nx [some (.loc 1), some n, some r, some c', some pv', p5] s) ∨
                  (∃ k δ', dueL A none xs = some k ∧ sForA (dVar 3) (tgN 5) g_Net_add_trip_b1 [some (.loc 1), some n, some r, some c', some (pvD none), none] s = .ex k δ' s) := fun e => by
                subst e
                rcases trip_loop h (o1 := some n) (o2 := some r) (o3 := some (.lst xs)) xs none none tp with ⟨q, pv', p5, e⟩ | ⟨k, δ', q, e⟩
                · exact .inl ⟨q, pv', p5, e⟩
                · exact .inr ⟨k, δ', q, e⟩
              rcases h' with ⟨e, _⟩ | ⟨e, _⟩ | ⟨m, ys, rfl, e, hm, h7⟩
              · exact plain e
              · exact plain e
              · cases e
                have w : ∀ o, forL (tgN 5) g_Net_add_trip_b1 xs [some (.loc 1), some n, some r, some (.loc m), some (pvD none), none] (s.set m .dead) = o → sForA (dVar 3) (tgN 5) g_Net_add_trip_b1 [some (.loc 1), some n, some r, some (.loc m), some (pvD none), none] s = o.back m xs := fun o ho => by
                  unfold sForA
                  simp only [dVar_eq, List.getElem?_cons_succ, List.getElem?_cons_zero, out_ok, hm, ho]
                have bk := bk_id hm
                rcases trip_loop (h.far h7 (c := .dead)) (o1 := some n) (o2 := some r) (o3 := some (.loc m)) xs none none tp with ⟨q, pv', p5, e⟩ | ⟨k, δ', q, e⟩
                · refine .inl ⟨q, pv', p5, ?_⟩
                  rw [w _ e]
                  show (match bkS m xs (s.set m .dead) with | some s' => Out.nx _ s' | none => Out.stuck) = _
                  rw [bk]
                · refine .inr ⟨k, δ', q, ?_⟩
                  rw [w _ e]
                  show (match bkS m xs (s.set m .dead) with | some s' => Out.ex _ _ s' | none => Out.stuck) = _
                  rw [bk]
            rcases walk with ⟨q, pv', p5, e⟩ | ⟨k, δ', q, e⟩
            · have dq : dueC A (.lst xs) = none := by simp [dueC, k4, q]
              rw [dq]
              have hl : B.length < 10 := hl (by
                unfold dueT
                rw [k1, k2, k3, dq]
                simp)
              have e5 := p_room (P := B) (n := 6) (m := 10) (s := s) h.b (by omega)
              obtain ⟨z, rfl, hz⟩ := nmD_str k1
              have zn : z ∉ B.map (·.1) := by simpa [inB] using k2
              obtain ⟨e6, e7⟩ := set_new (d := .tup [r, .tup xs]) zn
              have bt : bTuple [c'] s = .ok (.tup xs) s := by
                rcases h' with ⟨rfl, _⟩ | ⟨rfl, _⟩ | ⟨m, ys, rfl, e, hm, h7⟩
                · rfl
                · rfl
                · cases e
                  unfold bTuple
                  simp [lqOf, lsOf, hm]
              have key : g_Net_add_trip [some (.loc 1), some (.str z), some r, some c', none, none] s = .nx [some (.loc 1), some (.str z), some r, some c', some pv', p5] (s.set 6 (.dct (ky (addB B (.str z) r (.lst xs))) (vl (addB B (.str z) r (.lst xs))))) := by
                unfold g_Net_add_trip
                refine seq_step g1 (seq_step g2 (seq_step g3 (seq_step g4 (seq_step e ?_))))
                refine seq_step (δ' := [some (.loc 1), some (.str z), some r, some c', some pv', p5]) (s' := s) (by simp [ob, e5]) ?_
                have hl2 : B.length < 1000 := by omega
                have hb := h.b
                have l2 : 2 ≤ lim := by decide
                simp [bt, ob, hb, hl2, e6, e7, addB, strOf, callsOf, l2]
              rw [key]
              show cut s.length .non _ = _
              unfold Mp.cut
              rw [if_pos (by rw [List.length_set])]
            · have dq : dueC A (.lst xs) = some k := by simp [dueC, k4, q]
              rw [dq]
              have key : g_Net_add_trip [some (.loc 1), some n, some r, some c', none, none] s = .ex k δ' s := by
                unfold g_Net_add_trip
                exact seq_step g1 (seq_step g2 (seq_step g3 (seq_step g4 (seq_ex e))))
              rw [key, fin_ex]
        | _ =>
          rw [bad rfl, fin_ex]
          simp [dueC]
end
end Rb
namespace Rb
open PySem PySem.Spec L2 Mp
theorem oEqB_nil {L : List D} {s : Sto} : oEqB (.lst L) (.lst []) s = .ok (.bl L.isEmpty) s := by
  cases L with
  | nil => rfl
  | cons x L =>
    have ex : oEqX (.lst (x :: L)) (.lst []) s = .ok (.bl false) s := by
      unfold oEqX
      simp [lqOf, lsOf]
    have two : oEqG false (.lst (x :: L)) (.lst []) s = .stuck ∨ oEqG false (.lst (x :: L)) (.lst []) s = .ok (.bl false) s := by
      have e1 : scD (.lst (x :: L)) (.lst []) = none := rfl
      have e2 : toPc s (.lst []) = some (.list []) := rfl
      have e3 : toPc s (.lst (x :: L)) = (toPs (x :: L)).map .list := rfl
      unfold oEqG
      rw [e1, e2, e3]
      dsimp only
      cases h1 : toP x with
      | none =>
        left
        have : toPs (x :: L) = none := by unfold toPs; rw [h1]
        rw [this]
        rfl
      | some p =>
        cases h2 : toPs L with
        | none =>
          left
          have : toPs (x :: L) = none := by unfold toPs; rw [h1, h2]
          rw [this]
          rfl
        | some ps =>
          have : toPs (x :: L) = some (p :: ps) := by rw [toPs, h1, h2]
          rw [this]
          dsimp only [Option.map_some]
          split
          · right; rfl
          · left; rfl
    unfold oEqB
    rcases two with h | h
    · rw [h]; exact ex
    · rw [h]; rfl
theorem p_shape {c : D} {s : Sto} (hc : Cs c) : f__law_shape [c] s = .ok (.bl (shpD c)) s := by
  have i1 := iso_l (s := s) hc.1
  have key : g__law_shape [some c, none] s = .rt (.bl (shpD c)) s := by
    unfold g__law_shape
    cases c with
    | lst xs =>
      have i1' : bIsO parT parA csT [.lst xs, .ty "list"] s = .ok (.bl true) s := i1
      by_cases cc : (2 : Int) ≤ xs.length ∧ (xs.length : Int) ≤ 6
      · refine seq_step (δ' := [some (.lst xs), none]) (s' := s) (by simp [i1', cc.1, cc.2]) ?_
        have r := lcL_fil (s := s) (δ := [some (.lst xs), none]) (t := tgN 1) (c := tOrD (tNotD (tst (dBi (bIsO parT parA csT) (aCons (dVar 1) (aCons (dC (.ty "tuple")) aNil))))) (tst (dOp oNe (dBi bLen (aCons (dVar 1) aNil)) (dC (.int 3))))) (e := dVar 1) id (fun d => !tp3 d) xs [] (by rw [lim_eq]; simp; omega) (by
          intro d hd
          refine ⟨_, rfl, ?_, fun _ => by simp⟩
          have i := iso_t (s := s) (hc.2 xs rfl d hd).1
          cases d with
          | tup ys =>
            have i' : bIsO parT parA csT [.tup ys, .ty "tuple"] s = .ok (.bl true) s := i
            by_cases l : ys.length = 3
            · simp [i', tp3, l]
            · have l2 : ¬ (ys.length : Int) = 3 := by omega
              simp [i', tp3, l, l2]
          | _ => simp [i, isT, tp3])
        rw [List.map_id, List.nil_append] at r
        have e : shpD (.lst xs) = (xs.filter fun d => !tp3 d).isEmpty := by
          show shp xs = _
          unfold shp
          rw [decide_eq_true cc.1, decide_eq_true cc.2]
          cases q : xs.filter (fun d => !tp3 d) with
          | nil =>
            have : xs.all tp3 = true := by
              rw [List.all_eq_true]
              intro x hx
              have := List.filter_eq_nil_iff.mp q x hx
              cases e : tp3 x with
              | true => rfl
              | false => rw [e] at this; exact absurd rfl this
            rw [this]
            rfl
          | cons y ys =>
            have hm : y ∈ xs.filter (fun d => !tp3 d) := by rw [q]; exact List.mem_cons_self
            have h1 := List.mem_filter.mp hm
            have : xs.all tp3 = false := by
              rw [Bool.eq_false_iff]
              intro a
              have := List.all_eq_true.mp a y h1.1
              rw [this] at h1
              exact absurd h1.2 (by decide)
            rw [this]
            rfl
        simp only [sRet_eq, dOp_eq, dLc_eq, itAny_eq, dVar_eq, List.getElem?_cons_zero, bind_ok, wipeE_cons, wipeE_nil, List.set, dLst_eq, aNil_eq]
        rw [r]
        simp only [bind_ok]
        rw [if_pos (by decide)]
        simp only [bind_ok, oEqB_nil, out_ok, e]
      · have e0 : shpD (.lst xs) = false := by
          show shp xs = false
          unfold shp
          by_cases c2 : (2 : Int) ≤ xs.length
          · have : ¬ (xs.length : Int) ≤ 6 := fun q => cc ⟨c2, q⟩
            rw [decide_eq_false this]; simp
          · rw [decide_eq_false c2]; simp
        rw [e0]
        refine seq_ret ?_
        by_cases c2 : (2 : Int) ≤ xs.length
        · have c3 : ¬ (xs.length : Int) ≤ 6 := fun q => cc ⟨c2, q⟩
          simp [i1', c2, c3]
        · simp [i1', c2]
    | _ =>
      refine seq_ret ?_
      simp [i1, isL, shpD]
  show finO s.length (g__law_shape [some c, none] s) = _
  rw [key]
  simp
/-! ### what is due -/
def wd : Nat → List Nat
  | 4 => [110, 97, 109, 101]
  | 5 => [116, 119, 105, 99, 101]
  | 6 => [115, 116, 111, 112]
  | 7 => [114, 117, 108, 101]
  | 10 => [110, 117, 109, 98, 101, 114]
  | _ => [99, 97, 108, 108, 115]
abbrev wDaily : List Nat := [100, 97, 105, 108, 121]
abbrev wSome : List Nat := [115, 111, 109, 101]
def Rt (r : D) : Prop := (∃ z, r = .str z ∧ z.length ≤ 10 ∧ okS z = true) ∨ r = .non ∨ r = .int 5 ∨ r = .bl true ∨ r = .lst [.str wDaily] ∨ r = .dct [] []
def ruB : D → Bool
  | .str z => decide (z = wDaily) || decide (z = wSome)
  | _ => false
theorem Rt.at {r : D} (h : Rt r) : At r := by
  rcases h with ⟨z, rfl, h1, h2⟩ | rfl | rfl | rfl | rfl | rfl
  · show (if z.length ≤ 1000 ∧ okS z = true then some "str" else none : Option String).isSome = true
    rw [if_pos ⟨by omega, h2⟩]
    rfl
  · rfl
  · rfl
  · rfl
  · rfl
  · rfl
theorem p_rule {r : D} {s : Sto} (h : Rt r) : oInY true r (.tup [.str wDaily, .str wSome]) s = .ok (.bl (!ruB r)) s := by
  have gen : ∀ {x : D}, datD 8 x = true → oInY true x (.tup [.str wDaily, .str wSome]) s = oInX true x (.tup [.str wDaily, .str wSome]) s → (([D.str wDaily, D.str wSome].any fun z => eqD z x) = ruB x) → oInY true x (.tup [.str wDaily, .str wSome]) s = .ok (.bl (!ruB x)) s := fun {x} h1 h2 h3 => by
    have k := oInX_ok (neg := true) (s := s) (x := x) (y := .tup [.str wDaily, .str wSome]) (ys := [.str wDaily, .str wSome]) h1 (by decide) rfl
    rw [h2, k, h3, Bool.true_bne]
  rcases h with ⟨z, rfl, h1, h2⟩ | rfl | rfl | rfl | rfl | rfl
  · refine gen (by simpa using h2) rfl ?_
    show (eqD (.str wDaily) (.str z) || (eqD (.str wSome) (.str z) || false)) = _
    have q : ∀ y : List Nat, eqD (.str y) (.str z) = decide (z = y) := fun y => by
      by_cases c : z = y
      · subst c; simp [eqD]
      · have : ¬ y = z := fun q => c q.symm
        simp [eqD, c, this]
    rw [q, q, Bool.or_false]
    rfl
  · exact gen rfl rfl rfl
  · exact gen rfl rfl rfl
  · exact gen rfl rfl rfl
  · exact gen (by decide) rfl rfl
  · rfl
theorem ru_eq {R : Ps} {r : D} (hR : R.map (·.1) = [wDaily, wSome]) : (nmD r && inB R r) = ruB r := by
  cases r with
  | str z =>
    show (nmB z && decide (z ∈ R.map (·.1))) = (decide (z = wDaily) || decide (z = wSome))
    rw [hR]
    by_cases c1 : z = wDaily
    · subst c1; rfl
    · by_cases c2 : z = wSome
      · subst c2; rfl
      · have : z ∉ [wDaily, wSome] := by simp [c1, c2]
        rw [decide_eq_false this, decide_eq_false c1, decide_eq_false c2]
        simp
  | _ => rfl
theorem flat_str : ∀ zs : List (List Nat), (zs.map D.str).all flatD = true
  | [] => rfl
  | z :: zs => by
    rw [List.map_cons, List.all_cons, flat_str zs]
    rfl
theorem any_str {z : List Nat} : ∀ zs : List (List Nat), ((zs.map D.str).any fun y => eqF y (.str z)) = decide (z ∈ zs)
  | [] => by simp
  | y :: zs => by
    rw [List.map_cons, List.any_cons, any_str zs]
    show ((y == z) || decide (z ∈ zs)) = _
    by_cases c : z = y
    · subst c; simp
    · have : (y == z) = false := by simpa using fun q : y = z => c q.symm
      rw [this]
      simp [c]
theorem in_lst {neg : Bool} {z : List Nat} {zs : List (List Nat)} {s : Sto} : oInA neg (.str z) (.lst (zs.map D.str)) s = .ok (.bl (neg != decide (z ∈ zs))) s := by
  rw [oInA_lst, if_pos (by rw [flat_str]; rfl), any_str]
theorem in_loc {neg : Bool} {z : List Nat} {zs : List (List Nat)} {q : Nat} {s : Sto} (h : s[q]? = some (.lst (zs.map D.str))) : oInA neg (.str z) (.loc q) s = .ok (.bl (neg != decide (z ∈ zs))) s := by
  have e : oInA neg (.str z) (.loc q) s = oIn neg (.str z) (.loc q) s := by
    rcases z with _ | ⟨c, _ | ⟨d, r⟩⟩ <;> rfl
  have l : lqOf s (.loc q) = some (zs.map D.str) := by simp [lqOf, lsOf, h]
  rw [e]
  unfold oIn
  rw [l]
  show (if (flatD (.str z) && (zs.map D.str).all flatD) = true then _ else _) = _
  rw [if_pos (by rw [flat_str]; rfl), any_str]
def idx : Int → List D → List D
  | _, [] => []
  | i, _ :: r => .int i :: idx (i + 1) r
theorem ints_idx : ∀ (xs : List D) (i : Int), intsD i xs.length = idx i xs
  | [], i => rfl
  | x :: xs, i => by
    show _ = D.int i :: idx (i + 1) xs
    rw [← ints_idx xs (i + 1)]
    unfold intsD
    rw [List.length_cons, List.range_succ_eq_map, List.map_cons, List.map_map]
    congr 1
    · simp
    · refine List.map_congr_left fun j _ => ?_
      simp
      omega
section
variable {A R B : Ps} {s : Sto} {o1 o2 o3 : Option D}
theorem due_loop (hA : ∀ z ∈ A.map (·.1), okS z = true) {full : List D} : ∀ (rest pre : List D) (pv : Option Cl3) (o5 o6 o7 o8 : Option D), full = pre ++ rest → (pre = [] ∧ pv = none ∨ ∃ p c, pre = p ++ [cD c] ∧ pv = some c) → (∀ x ∈ rest, Tp x) →
    (dueL A pv rest = none ∧ ∃ p5 p6 p7 p8, forL (tgN 5) g__law_due_b1 (idx (pre.length : Int) rest) [some (.lst ((A.map (·.1)).map D.str)), o1, o2, o3, some (.lst full), o5, o6, o7, o8] s = .nx [some (.lst ((A.map (·.1)).map D.str)), o1, o2, o3, some (.lst full), p5, p6, p7, p8] s) ∨
    (∃ k, dueL A pv rest = some k ∧ forL (tgN 5) g__law_due_b1 (idx (pre.length : Int) rest) [some (.lst ((A.map (·.1)).map D.str)), o1, o2, o3, some (.lst full), o5, o6, o7, o8] s = .rt (.str (wd k)) s)
  | [], pre, pv, o5, o6, o7, o8, _, _, _ => .inl ⟨rfl, o5, o6, o7, o8, rfl⟩
  | x :: rest, pre, pv, o5, o6, o7, o8, hf, hp, hx => by
    obtain ⟨st, a, b, rfl, h1, h2, h3⟩ := hx x List.mem_cons_self
    have at1 : atI full (pre.length : Int) = some (.tup [st, a, b]) := by
      rw [atI_natc, hf, List.getElem?_append_right (Nat.le_refl _), Nat.sub_self]
      rfl
    have e1 := p_lisname (s := s) h1
    have e2 := p_lamong (lo := 0) (hi := 2879) (s := s) h2
    have e3 := p_lamong (lo := 0) (hi := 2879) (s := s) h3
    have asg : (sAsg (dOp oIx (dVar 4) (dVar 5)) (tgT [(tgN 6), (tgN 7), (tgN 8)])) [some (.lst ((A.map (·.1)).map D.str)), o1, o2, o3, some (.lst full), some (.int (pre.length : Int)), o6, o7, o8] s = .nx [some (.lst ((A.map (·.1)).map D.str)), o1, o2, o3, some (.lst full), some (.int (pre.length : Int)), some st, some a, some b] s := by
      simp only [sAsg_eq, dOp_eq, dVar_eq, List.getElem?_cons_succ, List.getElem?_cons_zero, bind_ok, oIx_lst, at1, out_ok]
      rfl
    let E : Mp.Env := [some (.lst ((A.map (·.1)).map D.str)), o1, o2, o3, some (.lst full), some (.int (pre.length : Int)), some st, some a, some b]
    have i1 : (tOrD (tNotD (tst (dCall f__law_is_name (aCons (dVar 6) aNil)))) (tst (dOp (oInA true) (dVar 6) (dVar 0)))) E s = .ok (!(nmD st && inB A st)) s := by
      show (tOrD _ _) [some (.lst ((A.map (·.1)).map D.str)), o1, o2, o3, some (.lst full), some (.int (pre.length : Int)), some st, some a, some b] s = _
      cases c : nmD st with
      | false => rw [c] at e1; simp [e1]
      | true =>
        rw [c] at e1
        obtain ⟨z, rfl, _⟩ := nmD_str c
        have q : oInA true (.str z) (.lst ((A.map (·.1)).map D.str)) s = .ok (.bl (true != decide (z ∈ A.map (·.1)))) s := in_lst
        generalize (A.map (·.1)).map D.str = NS at q
        simp only [tOr_eq, tNot_eq, tst_eq, dCall_eq, dOp_eq, aCons_eq, aNil_eq, dVar_eq, List.getElem?_cons_succ, List.getElem?_cons_zero, bind_ok, e1, q, Bool.not_true, Bool.true_bne]
        rfl
    have i2 : (tOrD (tNotD (tst (dCall f__law_among (aCons (dVar 7) (aCons (dC (.int 0)) (aCons (dC (.int 2879)) aNil)))))) (tNotD (tst (dCall f__law_among (aCons (dVar 8) (aCons (dC (.int 0)) (aCons (dC (.int 2879)) aNil))))))) E s = .ok (!(amD 0 2879 a && amD 0 2879 b)) s := by
      show (tOrD _ _) [some (.lst ((A.map (·.1)).map D.str)), o1, o2, o3, some (.lst full), some (.int (pre.length : Int)), some st, some a, some b] s = _
      cases c : amD 0 2879 a with
      | false => rw [c] at e2; simp [e2]
      | true => rw [c] at e2; simp [e2, e3]
    have t1 : tgN 5 (.int (pre.length : Int)) [some (.lst ((A.map (·.1)).map D.str)), o1, o2, o3, some (.lst full), o5, o6, o7, o8] = some [some (.lst ((A.map (·.1)).map D.str)), o1, o2, o3, some (.lst full), some (.int (pre.length : Int)), o6, o7, o8] := rfl
    show _ ∨ (∃ k, _ ∧ forL (tgN 5) g__law_due_b1 (.int (pre.length : Int) :: idx ((pre.length : Int) + 1) rest) _ s = _)
    cases c1 : (nmD st && inB A st) with
    | false =>
      rw [c1] at i1
      refine .inr ⟨6, by simp [dueL, c1], forL_stop t1 ?_⟩
      unfold g__law_due_b1
      refine seq_step asg (seq_ret ?_)
      rw [sIf_eq, i1]
      rfl
    | true =>
      rw [c1] at i1
      have s1 : (sIf (tOrD (tNotD (tst (dCall f__law_is_name (aCons (dVar 6) aNil)))) (tst (dOp (oInA true) (dVar 6) (dVar 0)))) (sRet (dC (.str [115, 116, 111, 112]))) sPass) E s = .nx E s := by
        rw [sIf_eq, i1]
        rfl
      cases c2 : (amD 0 2879 a && amD 0 2879 b) with
      | false =>
        rw [c2] at i2
        refine .inr ⟨10, ?_, forL_stop t1 ?_⟩
        · cases k1 : amD 0 2879 a with
          | false => simp [dueL, c1, k1]
          | true =>
            rw [k1] at c2
            have k2 : amD 0 2879 b = false := c2
            simp [dueL, c1, k1, k2]
        · unfold g__law_due_b1
          refine seq_step asg (seq_step s1 (seq_ret ?_))
          rw [sIf_eq, i2]
          rfl
      | true =>
        rw [c2] at i2
        have s2 : (sIf (tOrD (tNotD (tst (dCall f__law_among (aCons (dVar 7) (aCons (dC (.int 0)) (aCons (dC (.int 2879)) aNil)))))) (tNotD (tst (dCall f__law_among (aCons (dVar 8) (aCons (dC (.int 0)) (aCons (dC (.int 2879)) aNil))))))) (sRet (dC (.str [110, 117, 109, 98, 101, 114]))) sPass) E s = .nx E s := by
          rw [sIf_eq, i2]
          rfl
        rw [Bool.and_eq_true] at c2
        have n1 : nmD st = true := by
          rw [Bool.and_eq_true] at c1
          exact c1.1
        have ec := tp_cD n1 c2.1 c2.2
        obtain ⟨z, rfl, _⟩ := nmD_str n1
        cases a with
        | int i =>
          cases b with
          | int j =>
            have ec' : D.tup [.str z, .int i, .int j] = cD (z, i, j) := rfl
            have i3 : (tOrD (tst (dOp oLt (dVar 8) (dVar 7))) (tAndD (tst (dOp oGt (dVar 5) (dC (.int 0)))) (tOrD (tst (dOp oEq (dVar 6) (dOp oIx (dOp oIx (dVar 4) (dOp oSub (dVar 5) (dC (.int 1)))) (dC (.int 0))))) (tst (dOp oLe (dVar 7) (dOp oIx (dOp oIx (dVar 4) (dOp oSub (dVar 5) (dC (.int 1)))) (dC (.int 2)))))))) E s = .ok (bump pv (z, i, j)) s := by
              show (tOrD _ _) [some (.lst ((A.map (·.1)).map D.str)), o1, o2, o3, some (.lst full), some (.int (pre.length : Int)), some (.str z), some (.int i), some (.int j)] s = _
              by_cases hb : j < i
              · simp [hb, bump]
              · rcases hp with ⟨rfl, rfl⟩ | ⟨p, c, rfl, rfl⟩
                · simp [hb, bump]
                · have ap : atI full (((p ++ [cD c]).length : Int) - 1) = some (cD c) := by
                    have : (((p ++ [cD c]).length : Int) - 1) = (p.length : Int) := by simp
                    rw [this, atI_natc, hf, List.append_assoc, List.getElem?_append_right (Nat.le_refl _), Nat.sub_self]
                    rfl
                  have pos : (0 : Int) < ((p ++ [cD c]).length : Int) := by
                    rw [List.length_append, List.length_singleton]
                    omega
                  generalize ((p ++ [cD c]).length : Int) = n at ap pos
                  have ez : (z == c.1) = (c.1 == z) := by
                    by_cases q : z = c.1
                    · subst q; rfl
                    · have q2 : ¬ c.1 = z := fun x => q x.symm
                      have h1 : (z == c.1) = false := by simpa using q
                      have h2 : (c.1 == z) = false := by simpa using q2
                      rw [h1, h2]
                  have x0 : oIx (cD c) (.int 0) s = .ok (.str c.1) s := rfl
                  have x2 : oIx (cD c) (.int 2) s = .ok (.int c.2.2) s := rfl
                  have gt : decide (n > 0) = true := decide_eq_true pos
                  have os : oSub (.int n) (.int 1) s = .ok (.int (n - 1)) s := rfl
                  have ol : oLt (.int j) (.int i) s = .ok (.bl false) s := by
                    show Res.ok (D.bl (decide (j < i))) s = _
                    rw [decide_eq_false hb]
                  have og : oGt (.int n) (.int 0) s = .ok (.bl true) s := by
                    show Res.ok (D.bl (decide (n > 0))) s = _
                    rw [gt]
                  have oe : oEq (.str z) (.str c.1) s = .ok (.bl (c.1 == z)) s := by
                    show oEqG false (.str z) (.str c.1) s = _
                    rw [oEq_str, ez, Bool.false_bne]
                  have oi : oIx (.lst full) (.int (n - 1)) s = .ok (cD c) s := by rw [oIx_lst, ap]
                  have eb : bump (some c) (z, i, j) = (c.1 == z || decide (i ≤ c.2.2)) := by
                    unfold bump
                    rw [decide_eq_false hb]
                    rfl
                  rw [eb]
                  simp only [tOr_eq, tAnd_eq, tst_eq, dOp_eq, dVar_eq, dC_eq, List.getElem?_cons_succ, List.getElem?_cons_zero, bind_ok, oi, os, ol, og, oe, x0, x2, Bool.false_eq_true, if_false, if_true]
                  cases c.1 == z with
                  | true => rfl
                  | false => rfl
            cases c3 : bump pv (z, i, j) with
            | true =>
              rw [c3] at i3
              refine .inr ⟨11, ?_, forL_stop t1 ?_⟩
              · simp [dueL, c1, c2.1, c2.2, strOf, intOf, c3]
              · unfold g__law_due_b1
                refine seq_step asg (seq_step s1 (seq_step s2 ?_))
                rw [sIf_eq, i3]
                rfl
            | false =>
              rw [c3] at i3
              have d1 : dueL A pv (.tup [.str z, .int i, .int j] :: rest) = dueL A (some (z, i, j)) rest := by
                simp [dueL, c1, c2.1, c2.2, strOf, intOf, c3]
              have f1 : ∀ o5 o6 o7 o8, forL (tgN 5) g__law_due_b1 (.int (pre.length : Int) :: idx ((pre.length : Int) + 1) rest) [some (.lst ((A.map (·.1)).map D.str)), o1, o2, o3, some (.lst full), o5, o6, o7, o8] s = forL (tgN 5) g__law_due_b1 (idx (((pre ++ [cD (z, i, j)]).length : Nat) : Int) rest) [some (.lst ((A.map (·.1)).map D.str)), o1, o2, o3, some (.lst full), some (.int (pre.length : Int)), some (.str z), some (.int i), some (.int j)] s := fun o5 o6 o7 o8 => by
                have el : (((pre ++ [cD (z, i, j)]).length : Nat) : Int) = (pre.length : Int) + 1 := by simp
                rw [el]
                refine forL_next rfl ?_
                unfold g__law_due_b1
                refine seq_step (by
                  simp only [sAsg_eq, dOp_eq, dVar_eq, List.getElem?_cons_succ, List.getElem?_cons_zero, List.set, bind_ok, oIx_lst, at1, out_ok]
                  rfl) (seq_step s1 (seq_step s2 ?_))
                rw [sIf_eq, i3]
                rfl
              have ih := due_loop hA (full := full) rest (pre ++ [cD (z, i, j)]) (some (z, i, j)) (some (.int (pre.length : Int))) (some (.str z)) (some (.int i)) (some (.int j)) (by rw [hf, List.append_assoc]; rfl) (.inr ⟨pre, _, rfl, rfl⟩) fun y hy => hx y (List.mem_cons_of_mem _ hy)
              rw [d1]
              show (_ ∧ ∃ p5 p6 p7 p8, forL (tgN 5) g__law_due_b1 (.int (pre.length : Int) :: idx ((pre.length : Int) + 1) rest) _ s = _) ∨ _
              rw [f1]
              exact ih
          | _ => cases c2.2
        | _ => cases c2.1
end
def dueW : Option Nat → D
  | none => .non
  | some k => .str (wd k)
theorem p_due {A R B : Ps} {s : Sto} {q : Nat} {n r c : D} (hA : ∀ z ∈ A.map (·.1), okS z = true) (hR : R.map (·.1) = [wDaily, wSome]) (hq : s[q]? = some (.lst ((B.map (·.1)).map D.str))) (hn : At n) (hr : Rt r) (hc : Cs c) :
    f__law_due [.lst ((A.map (·.1)).map D.str), .loc q, n, r, c] s = .ok (dueW (dueT A R B n r c)) s := by
  have e1 := p_lisname (s := s) hn
  have e4 := p_shape (s := s) hc
  have e3 := p_rule (s := s) hr
  have re := ru_eq (r := r) hR
  have key : g__law_due [some (.lst ((A.map (·.1)).map D.str)), some (.loc q), some n, some r, some c, none, none, none, none] s = .rt (dueW (dueT A R B n r c)) s := by
    unfold g__law_due
    generalize hNS : (A.map (·.1)).map D.str = NS
    unfold dueT
    cases k1 : nmD n with
    | false =>
      rw [k1] at e1
      refine seq_ret ?_
      simp [e1, dueW, wd]
    | true =>
      rw [k1] at e1
      refine seq_step (δ' := [some (.lst NS), some (.loc q), some n, some r, some c, none, none, none, none]) (s' := s) (by simp [e1]) ?_
      obtain ⟨z, rfl, hz⟩ := nmD_str k1
      have e2 : oInA false (.str z) (.loc q) s = .ok (.bl (false != decide (z ∈ B.map (·.1)))) s := in_loc hq
      rw [Bool.false_bne] at e2
      cases k2 : inB B (.str z) with
      | true =>
        have : decide (z ∈ B.map (·.1)) = true := k2
        rw [this] at e2
        refine seq_ret ?_
        simp only [sIf_eq, tst_eq, dOp_eq, dVar_eq, List.getElem?_cons_succ, List.getElem?_cons_zero, bind_ok, e2, out_ok, if_true, sRet_eq, dC_eq]
        rfl
      | false =>
        have : decide (z ∈ B.map (·.1)) = false := k2
        rw [this] at e2
        refine seq_step (δ' := [some (.lst NS), some (.loc q), some (.str z), some r, some c, none, none, none, none]) (s' := s) (by
          simp only [sIf_eq, tst_eq, dOp_eq, dVar_eq, List.getElem?_cons_succ, List.getElem?_cons_zero, bind_ok, e2, out_ok, Bool.false_eq_true, if_false, sPass_eq]) ?_
        rw [re]
        have tt : dTup (aCons (dC (.str [100, 97, 105, 108, 121])) (aCons (dC (.str [115, 111, 109, 101])) aNil)) [some (.lst NS), some (.loc q), some (.str z), some r, some c, none, none, none, none] s = .ok (.tup [.str wDaily, .str wSome]) s := by simp [lim_eq]
        cases k3 : ruB r with
        | false =>
          rw [k3] at e3
          refine seq_ret ?_
          rw [sIf_eq, tst_eq, dOp_eq, dVar_eq]
          simp only [List.getElem?_cons_succ, List.getElem?_cons_zero, bind_ok, tt, e3, out_ok]
          rfl
        | true =>
          rw [k3] at e3
          refine seq_step (δ' := [some (.lst NS), some (.loc q), some (.str z), some r, some c, none, none, none, none]) (s' := s) (by
            rw [sIf_eq, tst_eq, dOp_eq, dVar_eq]
            simp only [List.getElem?_cons_succ, List.getElem?_cons_zero, bind_ok, tt, e3, out_ok]
            rfl) ?_
          have bad : shpD c = false → dueC A c = some 11 := fun h => by
            cases c with
            | lst xs =>
              have h' : shp xs = false := h
              simp [dueC, h']
            | _ => rfl
          cases k4 : shpD c with
          | false =>
            rw [k4] at e4
            rw [bad k4]
            refine seq_ret ?_
            simp [e4]
            rfl
          | true =>
            rw [k4] at e4
            refine seq_step (δ' := [some (.lst NS), some (.loc q), some (.str z), some r, some c, none, none, none, none]) (s' := s) (by simp [e4]) ?_
            cases c with
            | lst xs =>
              have k4' : shp xs = true := k4
              obtain ⟨hl, tp⟩ := shp_tp (hc.2 xs rfl) k4'
              have dc : dueC A (.lst xs) = dueL A none xs := by simp [dueC, k4']
              have sm : small62 (xs.length : Int) = true := by unfold small62; simp; omega
              have rg : itR1 (aCons (dBi bLen (aCons (dVar 4) aNil)) aNil) [some (.lst NS), some (.loc q), some (.str z), some r, some (.lst xs), none, none, none, none] s = .ok (idx 0 xs) s := by
                have ha : aCons (dBi bLen (aCons (dVar 4) aNil)) aNil [some (.lst NS), some (.loc q), some (.str z), some r, some (.lst xs), none, none, none, none] s = .ok [.int (xs.length : Int)] s := by
                  simp only [aCons_eq, aNil_eq, dBi_eq, dVar_eq, List.getElem?_cons_succ, List.getElem?_cons_zero, bind_ok, bLen_lst]
                rw [itR1_eq, ha, bind_ok]
                dsimp only
                rw [if_pos sm, Int.toNat_natCast, ints_idx]
              have lp := due_loop (s := s) (o1 := some (.loc q)) (o2 := some (.str z)) (o3 := some r) hA (full := xs) xs [] none none none none none rfl (.inl ⟨rfl, rfl⟩) tp
              rw [hNS] at lp
              rw [dc]
              rcases lp with ⟨h1, p5, p6, p7, p8, h2⟩ | ⟨k, h1, h2⟩
              · rw [h1]
                refine seq_step (δ' := [some (.lst NS), some (.loc q), some (.str z), some r, some (.lst xs), p5, p6, p7, p8]) (s' := s) (by
                  rw [sFor_eq, rg, out_ok]
                  exact h2) ?_
                rfl
              · rw [h1]
                refine seq_ret ?_
                rw [sFor_eq, rg, out_ok]
                exact h2
            | _ => cases k4
  show finO s.length (g__law_due [some (.lst ((A.map (·.1)).map D.str)), some (.loc q), some n, some r, some c, none, none, none, none] s) = _
  rw [key]
  show cut s.length _ s = _
  unfold Mp.cut
  rw [if_pos rfl]
/-- a good trip is due nothing -/
theorem rise_due {A : Ps} {names : List (List Nat)} (hn : ∀ z ∈ names, NmOk z ∧ z ∈ A.map (·.1)) : ∀ (cs : List Cl3) (nm : Option (List Nat)) (m : Int) (pv : Option Cl3), (∀ p, pv = some p → nm = some p.1 ∧ m = p.2.2) → 0 ≤ m → Rise names nm m cs → dueL A pv (cs.map cD) = none
  | [], _, _, _, _, _, _ => rfl
  | c :: cs, nm, m, pv, hp, hm, hr => by
    obtain ⟨r1, r2, r3, r4, r5, r6⟩ := hr
    obtain ⟨k1, k2⟩ := hn _ r1
    have n1 : (nmD (.str c.1) && inB A (.str c.1)) = true := by
      rw [nmD_of k1, Bool.true_and]
      exact decide_eq_true k2
    have a1 : amD 0 2879 (.int c.2.1) = true := by
      show (decide (0 ≤ c.2.1) && decide (c.2.1 ≤ 2879)) = true
      rw [decide_eq_true (by omega), decide_eq_true (by omega)]
      rfl
    have a2 : amD 0 2879 (.int c.2.2) = true := by
      show (decide (0 ≤ c.2.2) && decide (c.2.2 ≤ 2879)) = true
      rw [decide_eq_true (by omega), decide_eq_true (by omega)]
      rfl
    have b1 : bump pv c = false := by
      unfold bump
      rw [decide_eq_false (by omega), Bool.false_or]
      cases pv with
      | none => rfl
      | some p =>
        obtain ⟨h1, h2⟩ := hp p rfl
        have h3 : ¬ p.1 = c.1 := r2 _ h1
        have h4 : ¬ c.2.1 ≤ p.2.2 := by omega
        simp [h3, h4]
    have ih := rise_due hn cs (some c.1) c.2.2 (some c) (fun p e => by cases e; exact ⟨rfl, rfl⟩) (by omega) r6
    rw [List.map_cons]
    show (if _ then _ else if _ then _ else if _ then _ else if bump pv (c.1, c.2.1, c.2.2) = true then _ else dueL A (some (c.1, c.2.1, c.2.2)) (cs.map cD)) = none
    simp only [n1, a1, a2, Bool.true_eq_false, if_false]
    have b1' : bump pv (c.1, c.2.1, c.2.2) = false := b1
    rw [b1']
    simpa using ih
theorem at_cD {c : Cl3} (h : NmOk c.1) : At (cD c) ∧ ∀ ys, cD c = .tup ys → ∀ y ∈ ys, At y := by
  refine ⟨rfl, fun ys e y hy => ?_⟩
  cases e
  simp only [List.mem_cons, List.not_mem_nil, or_false] at hy
  rcases hy with rfl | rfl | rfl
  · exact at_str h
  · rfl
  · rfl
theorem shp_cD {cs : List Cl3} (h : 2 ≤ cs.length ∧ cs.length ≤ 6) : shp (cs.map cD) = true := by
  unfold shp
  rw [List.length_map, decide_eq_true (by omega), decide_eq_true (by omega)]
  have : (cs.map cD).all tp3 = true := by
    rw [List.all_map, List.all_eq_true]
    intro c _
    rfl
  rw [this]
  rfl
end Rb
namespace Rb
open PySem PySem.Spec L2 Mp
abbrev wTold : List Nat := [116, 111, 108, 100]
theorem said_ex {d : D} {call : Sto → Res D} {s : Sto} {k : Nat} (hk : k = 4 ∨ k = 5 ∨ k = 6 ∨ k = 7 ∨ k = 10 ∨ k = 11) (h : call s = .exc k s) : lamF NN__law_said g__law_said d call s = .ok (.str (wd k)) s := by
  have b : g__law_said_b1 (actD 0 d call) [some d, none, none] s = .ex k [some d, none, none] s := by
    unfold g__law_said_b1
    simp only [sRet_eq, dTup_eq, aCons_eq, aNil_eq, dC_eq, bind_ok, actD_eq (i := 0) (d := d) (call := call) (δ := [some d, none, none]) (s := s) rfl, h]
    rfl
  have e : lamF NN__law_said g__law_said d call s = finO s.length (g__law_said (actD 0 d call) [some d, none, none] s) := rfl
  rw [e]
  unfold g__law_said sTry
  rw [b]
  have fin : ∀ z, finO s.length (.rt (.str z) s) = .ok (.str z) s := fun z => by
    show cut s.length (.str z) s = _
    unfold Mp.cut
    rw [if_pos rfl]
  rcases hk with rfl | rfl | rfl | rfl | rfl | rfl <;> exact fin _
theorem said_ok {d : D} {call : Sto → Res D} {s s' : Sto} (h : call s = .ok .non s') (hl : s'.length = s.length) : lamF NN__law_said g__law_said d call s = .ok (.tup [.str wTold, .non]) s' := by
  have b : g__law_said_b1 (actD 0 d call) [some d, none, none] s = .rt (.tup [.str wTold, .non]) s' := by
    unfold g__law_said_b1
    simp only [sRet_eq, dTup_eq, aCons_eq, aNil_eq, dC_eq, bind_ok, actD_eq (i := 0) (d := d) (call := call) (δ := [some d, none, none]) (s := s) rfl, h]
    rw [if_pos (by decide)]
    rfl
  have e : lamF NN__law_said g__law_said d call s = finO s.length (g__law_said (actD 0 d call) [some d, none, none] s) := rfl
  rw [e]
  unfold g__law_said sTry
  rw [b]
  show cut s.length _ s' = _
  unfold Mp.cut
  rw [if_pos hl]
theorem dueL_mem {A : Ps} : ∀ {xs : List D} {pv : Option Cl3} {k : Nat}, (∀ x ∈ xs, Tp x) → dueL A pv xs = some k → k = 6 ∨ k = 10 ∨ k = 11
  | [], _, _, _, h => by cases h
  | x :: xs, pv, k, hx, h => by
    obtain ⟨st, a, b, rfl, _, _, _⟩ := hx x List.mem_cons_self
    unfold dueL at h
    split at h
    · cases h; exact .inl rfl
    · split at h
      · cases h; exact .inr (.inl rfl)
      · split at h
        · cases h; exact .inr (.inl rfl)
        · split at h
          · cases h; exact .inr (.inr rfl)
          · exact dueL_mem (fun y hy => hx y (List.mem_cons_of_mem _ hy)) h
theorem dueL_ok {A : Ps} : ∀ {xs : List D} {pv : Option Cl3}, (∀ x ∈ xs, Tp x) → dueL A pv xs = none → ∃ cs : List Cl3, xs = cs.map cD
  | [], _, _, _ => ⟨[], rfl⟩
  | x :: xs, pv, hx, h => by
    obtain ⟨st, a, b, rfl, _, _, _⟩ := hx x List.mem_cons_self
    unfold dueL at h
    split at h
    · cases h
    · rename_i c1
      split at h
      · cases h
      · rename_i c2
        split at h
        · cases h
        · rename_i c3
          split at h
          · cases h
          · obtain ⟨cs, e⟩ := dueL_ok (fun y hy => hx y (List.mem_cons_of_mem _ hy)) h
            have n1 : nmD st = true := by
              have : (nmD st && inB A st) = true := by simpa using c1
              rw [Bool.and_eq_true] at this
              exact this.1
            exact ⟨(strOf st, intOf a, intOf b) :: cs, by rw [List.map_cons, ← e, tp_cD n1 (by simpa using c2) (by simpa using c3)]⟩
theorem dueT_mem {A R B : Ps} {n r c : D} {k : Nat} (hc : Cs c) (h : dueT A R B n r c = some k) : k = 4 ∨ k = 5 ∨ k = 6 ∨ k = 7 ∨ k = 10 ∨ k = 11 := by
  unfold dueT at h
  split at h
  · cases h; simp
  · split at h
    · cases h; simp
    · split at h
      · cases h; simp
      · cases c with
        | lst xs =>
          have h' : (if shp xs = false then some 11 else dueL A none xs) = some k := h
          split at h'
          · cases h'; simp
          · rename_i q
            have := dueL_mem (shp_tp (hc.2 xs rfl) (by simpa using q)).2 h'
            omega
        | _ => cases h; simp
theorem dueT_ok {A R B : Ps} {n r c : D} (hc : Cs c) (h : dueT A R B n r c = none) : (∃ z, n = .str z ∧ NmOk z ∧ z ∉ B.map (·.1)) ∧ (nmD r && inB R r) = true ∧ ∃ cs : List Cl3, c = .lst (cs.map cD) ∧ 2 ≤ cs.length ∧ cs.length ≤ 6 := by
  unfold dueT at h
  split at h
  · cases h
  · rename_i q1
    split at h
    · cases h
    · rename_i q2
      split at h
      · cases h
      · rename_i q3
        obtain ⟨z, rfl, hz⟩ := nmD_str (by simpa using q1)
        refine ⟨⟨z, rfl, hz, by simpa [inB] using q2⟩, by simpa using q3, ?_⟩
        cases c with
        | lst xs =>
          have h' : (if shp xs = false then some 11 else dueL A none xs) = none := h
          split at h'
          · cases h'
          · rename_i q
            obtain ⟨hl, tp⟩ := shp_tp (hc.2 xs rfl) (by simpa using q)
            obtain ⟨cs, rfl⟩ := dueL_ok tp h'
            rw [List.length_map] at hl
            exact ⟨cs, rfl, hl⟩
        | _ => cases h
theorem belows_app {n : Nat} : ∀ {xs ys : List D}, belows n xs = true → belows n ys = true → belows n (xs ++ ys) = true
  | [], _, _, h => h
  | x :: xs, ys, h1, h2 => by
    have h1' : (below n x && belows n xs) = true := h1
    rw [Bool.and_eq_true] at h1'
    show (below n x && belows n (xs ++ ys)) = true
    rw [h1'.1, belows_app h1'.2 h2]
    rfl
theorem sb_set {s : Sto} {i : Nat} {c : Cell} (hs : Sb s) (hc : c.below s.length = true) : Sb (s.set i c) := by
  show (s.set i c).all (Cell.below (s.set i c).length) = true
  rw [List.length_set, List.all_eq_true]
  intro x hx
  rcases List.mem_or_eq_of_mem_set hx with h | h
  · exact List.all_eq_true.mp hs x h
  · rw [h]; exact hc
/-- a trip that is due nothing: the net behind it -/
theorem put_sb {A R B : Ps} {s : Sto} (h : Nt A R B s) (hs : Sb s) {n r c : D} (hc : Cs c) (hd : dueT A R B n r c = none) : Sb (s.set 6 (.dct (ky (addB B n r c)) (vl (addB B n r c)))) := by
  refine sb_set hs ?_
  obtain ⟨_, hr, cs, rfl, _⟩ := dueT_ok hc hd
  have n1 : nmD r = true := by
    rw [Bool.and_eq_true] at hr
    exact hr.1
  obtain ⟨z, rfl, _⟩ := nmD_str n1
  have b : belows s.length (vl B) = true := List.all_eq_true.mp hs _ (List.mem_of_getElem? h.b)
  show belows s.length (vl (addB B n (.str z) (.lst (cs.map cD)))) = true
  have e : vl (addB B n (.str z) (.lst (cs.map cD))) = vl B ++ [.tup [.str z, .tup (cs.map cD)]] := by simp [addB, vl, callsOf]
  rw [e]
  refine belows_app b ?_
  show (belows s.length [.str z, .tup (cs.map cD)] && true) = true
  show ((true && (belows s.length (cs.map cD) && true)) && true) = true
  rw [below_cD]
  rfl
theorem set_app {s t : Sto} {i : Nat} {c : Cell} (h : i < s.length) : (s ++ t).set i c = s.set i c ++ t := by
  rw [List.set_append_left _ _ h]
theorem set_end {s : Sto} {c d : Cell} : (s ++ [c]).set s.length d = s ++ [d] := by
  rw [List.set_append_right _ _ (Nat.le_refl _)]
  simp
theorem p_tried {A R B : Ps} {s : Sto} (h : Nt A R B s) (hs : Sb s) {n r c : D} (hn : At n) (hr : Rt r) (hc : Cs c) (hl : dueT A R B n r c = none → B.length < 10) (hx : ∀ xs, c = .lst xs → xs.length ≤ 1000) :
    f__law_tried [.loc 1, .tup [n, r, c]] s = match dueT A R B n r c with
      | some k => .ok (.str (wd k)) s
      | none => .ok (.tup [.str wTold, .non]) (s.set 6 (.dct (ky (addB B n r c)) (vl (addB B n r c)))) := by
  have e0 : f__law_tried [.loc 1, .tup [n, r, c]] s = finO s.length (g__law_tried [some (.loc 1), some (.tup [n, r, c]), none, none] s) := rfl
  rw [e0]
  have q0 : ∀ s, oIx (.tup [n, r, c]) (.int 0) s = .ok n s := fun s => rfl
  have q1 : ∀ s, oIx (.tup [n, r, c]) (.int 1) s = .ok r s := fun s => rfl
  have q2 : ∀ s, oIx (.tup [n, r, c]) (.int 2) s = .ok c s := fun s => rfl
  have i1 := fun s => iso_l (s := s) hc.1
  have run : ∀ (c' : D) (S : Sto), S[1]? = some NetO → (dMeth 6 [(20, f_Net_add_trip)] (dVar 0) (aCons (dOp oIx (dVar 1) (dC (.int 0))) (aCons (dOp oIx (dVar 1) (dC (.int 1))) (aCons (dVar 2) aNil)))) [some (.loc 1), some (.tup [n, r, c]), some c', none] S = f_Net_add_trip [.loc 1, n, r, c'] S := fun c' S ob => by
    generalize D.tup [n, r, c] = G at q0 q1
    simp only [dMeth_eq, dVar_eq, dOp_eq, dC_eq, aCons_eq, aNil_eq, List.getElem?_cons_succ, List.getElem?_cons_zero, bind_ok, obOf_loc, ob, q0, q1]
    simp [List.lookup]
  have ll := h.len
  cases hL : isL c with
  | true =>
    cases c with
    | lst xs =>
      have i1' : ∀ s, bIsO parT parA csT [.lst xs, .ty "list"] s = .ok (.bl true) s := i1
      have hm : (s ++ [Cell.lst xs])[s.length]? = some (.lst xs) := by simp
      have h1 : Nt A R B (s ++ [.lst xs]) := h.app
      have st1 : (sSet 2 (dIfE (tst (dBi (bIsO parT parA csT) (aCons (dOp oIx (dVar 1) (dC (.int 2))) (aCons (dC (.ty "list")) aNil)))) (dBi bListC (aCons (dOp oIx (dVar 1) (dC (.int 2))) aNil)) (dOp oIx (dVar 1) (dC (.int 2))))) [some (.loc 1), some (.tup [n, r, .lst xs]), none, none] s = .nx [some (.loc 1), some (.tup [n, r, .lst xs]), some (.loc s.length), none] (s ++ [.lst xs]) := by
        have bl : bListC [.lst xs] s = .ok (.loc s.length) (s ++ [.lst xs]) := rfl
        generalize D.tup [n, r, .lst xs] = G at q2
        simp only [sSet_eq, dIfE_eq, tst_eq, dBi_eq, dOp_eq, dVar_eq, dC_eq, aCons_eq, aNil_eq, List.getElem?_cons_succ, List.getElem?_cons_zero, bind_ok, q2, i1', bl, if_true, out_ok, List.set]
      have pt := p_addtrip h1 hn hr.at hc hl (c' := .loc s.length) (.inr (.inr ⟨s.length, xs, rfl, rfl, hm, ll⟩))
      have rn := run (.loc s.length) (s ++ [.lst xs]) h1.o
      have ty : ∀ S : Sto, S[s.length]? = some (.lst xs) → bIsO parT parA csT [.loc s.length, .ty "list"] S = .ok (.bl true) S := fun S hS => iso_ty (t := "list") (by simp [tyOf, hS]) kit_ll
      have tail : ∀ (W : D) (S : Sto), S[s.length]? = some (.lst xs) → (sSeq (sIf (tst (dBi (bIsO parT parA csT) (aCons (dVar 2) (aCons (dC (.ty "list")) aNil)))) (sDrop (dMt "list" mAppend (dVar 2) (aCons (dTup (aCons (dC (.str [109, 111, 114, 101])) (aCons (dC (.int 1)) (aCons (dC (.int 2)) aNil)))) aNil))) sPass)
    (sRet (dVar 3))) [some (.loc 1), some (.tup [n, r, .lst xs]), some (.loc s.length), some W] S = .rt W (S.set s.length (.lst (xs ++ [.tup [.str [109, 111, 114, 101], .int 1, .int 2]]))) := fun W S hS => by
        have t1 := ty S hS
        have hx' := hx xs rfl
        have hx2 : xs.length < 1000000 := by omega
        generalize D.tup [n, r, .lst xs] = G
        refine seq_step (δ' := [some (.loc 1), some G, some (.loc s.length), some W]) (s' := S.set s.length (.lst (xs ++ [.tup [.str [109, 111, 114, 101], .int 1, .int 2]]))) (by
          simp [t1, hS, hx2, lim_eq]) ?_
        simp
      cases hd : dueT A R B n r (.lst xs) with
      | some k =>
        rw [hd] at pt
        have lam : dLam 0 NN__law_said g__law_said (dMeth 6 [(20, f_Net_add_trip)] (dVar 0) (aCons (dOp oIx (dVar 1) (dC (.int 0))) (aCons (dOp oIx (dVar 1) (dC (.int 1))) (aCons (dVar 2) aNil)))) [some (.loc 1), some (.tup [n, r, .lst xs]), some (.loc s.length), none] (s ++ [.lst xs]) = .ok (.str (wd k)) (s ++ [.lst xs]) :=
          dLam_ok h1.z fun d => said_ex (dueT_mem hc hd) (rn.trans pt)
        have key : g__law_tried [some (.loc 1), some (.tup [n, r, .lst xs]), none, none] s = .rt (.str (wd k)) (s ++ [.lst (xs ++ [.tup [.str [109, 111, 114, 101], .int 1, .int 2]])]) := by
          unfold g__law_tried
          refine seq_step st1 (seq_step (δ' := [some (.loc 1), some (.tup [n, r, .lst xs]), some (.loc s.length), some (.str (wd k))]) (s' := s ++ [.lst xs]) ?_ ?_)
          · rw [sSet_eq, lam]
            rfl
          · have := tail (.str (wd k)) _ hm
            rw [set_end] at this
            exact this
        rw [key]
        exact cut_app hs rfl
      | none =>
        rw [hd] at pt
        have l6 : 6 < s.length := by omega
        rw [set_app l6] at pt
        have sb := put_sb h hs hc hd
        have lam : dLam 0 NN__law_said g__law_said (dMeth 6 [(20, f_Net_add_trip)] (dVar 0) (aCons (dOp oIx (dVar 1) (dC (.int 0))) (aCons (dOp oIx (dVar 1) (dC (.int 1))) (aCons (dVar 2) aNil)))) [some (.loc 1), some (.tup [n, r, .lst xs]), some (.loc s.length), none] (s ++ [.lst xs]) = .ok (.tup [.str wTold, .non]) (s.set 6 (.dct (ky (addB B n r (.lst xs))) (vl (addB B n r (.lst xs)))) ++ [.lst xs]) :=
          dLam_ok h1.z fun d => said_ok (rn.trans pt) (by simp)
        generalize hS6 : s.set 6 (.dct (ky (addB B n r (.lst xs))) (vl (addB B n r (.lst xs)))) = S6 at lam sb
        have l66 : S6.length = s.length := by rw [← hS6, List.length_set]
        have hm6 : (S6 ++ [Cell.lst xs])[s.length]? = some (.lst xs) := by rw [← l66]; simp
        have key : g__law_tried [some (.loc 1), some (.tup [n, r, .lst xs]), none, none] s = .rt (.tup [.str wTold, .non]) (S6 ++ [.lst (xs ++ [.tup [.str [109, 111, 114, 101], .int 1, .int 2]])]) := by
          unfold g__law_tried
          refine seq_step st1 (seq_step (δ' := [some (.loc 1), some (.tup [n, r, .lst xs]), some (.loc s.length), some (.tup [.str wTold, .non])]) (s' := S6 ++ [.lst xs]) ?_ ?_)
          · rw [sSet_eq, lam]
            rfl
          · have := tail (.tup [.str wTold, .non]) _ hm6
            rw [← l66, set_end] at this
            rw [← l66]
            exact this
        rw [key, ← l66]
        exact cut_app sb rfl
    | _ => cases hL
  | false =>
    have hk : ∃ k, dueT A R B n r c = some k := by
      cases hd : dueT A R B n r c with
      | some k => exact ⟨k, rfl⟩
      | none =>
        obtain ⟨_, _, cs, rfl, _⟩ := dueT_ok hc hd
        cases hL
    obtain ⟨k, hd⟩ := hk
    rw [hd]
    rw [hL] at i1
    have pt := p_addtrip h hn hr.at hc hl (c' := c) (.inl ⟨rfl, hL⟩)
    rw [hd] at pt
    have rn := run c s h.o
    have lam : dLam 0 NN__law_said g__law_said (dMeth 6 [(20, f_Net_add_trip)] (dVar 0) (aCons (dOp oIx (dVar 1) (dC (.int 0))) (aCons (dOp oIx (dVar 1) (dC (.int 1))) (aCons (dVar 2) aNil)))) [some (.loc 1), some (.tup [n, r, c]), some c, none] s = .ok (.str (wd k)) s :=
      dLam_ok h.z fun d => said_ex (dueT_mem hc hd) (rn.trans pt)
    have key : g__law_tried [some (.loc 1), some (.tup [n, r, c]), none, none] s = .rt (.str (wd k)) s := by
      unfold g__law_tried
      refine seq_step (δ' := [some (.loc 1), some (.tup [n, r, c]), some c, none]) (s' := s) ?_ (seq_step (δ' := [some (.loc 1), some (.tup [n, r, c]), some c, some (.str (wd k))]) (s' := s) ?_ ?_)
      · generalize D.tup [n, r, c] = G at q2
        simp only [sSet_eq, dIfE_eq, tst_eq, dBi_eq, dOp_eq, dVar_eq, dC_eq, aCons_eq, aNil_eq, List.getElem?_cons_succ, List.getElem?_cons_zero, bind_ok, q2, i1, Bool.false_eq_true, if_false, out_ok, List.set]
      · rw [sSet_eq, lam]
        rfl
      · generalize D.tup [n, r, c] = G
        have i2 := i1 s
        refine seq_step (δ' := [some (.loc 1), some G, some c, some (.str (wd k))]) (s' := s) (by simp [i2]) ?_
        simp
    rw [key]
    show cut s.length _ s = _
    unfold Mp.cut
    rw [if_pos rfl]
end Rb
namespace Rb
open PySem PySem.Spec L2 Mp
/-! ### a trip with something otherwise -/
def El (d : D) : Prop := d = .non ∨ d = .str [97, 98, 99] ∨ ∃ ys, (d = .lst ys ∨ d = .tup ys) ∧ (∀ y ∈ ys, At y) ∧ ys.length ≤ 3 ∧ ∀ y ∈ ys.drop 1, datD 63 y = true
theorem El.at {d : D} (h : El d) : At d ∧ ∀ ys, d = .tup ys → ∀ y ∈ ys, At y := by
  rcases h with rfl | rfl | ⟨ys, rfl | rfl, h, _⟩
  · exact ⟨rfl, fun ys e => by cases e⟩
  · exact ⟨rfl, fun ys e => by cases e⟩
  · exact ⟨rfl, fun ys e => by cases e⟩
  · exact ⟨rfl, fun ys e => by cases e; exact h⟩
theorem el3 {x y z : D} (h1 : At x) (h2 : At y) (h3 : At z) (d2 : datD 63 y = true) (d3 : datD 63 z = true) : El (.tup [x, y, z]) := by
  refine .inr (.inr ⟨_, .inr rfl, fun w hw => ?_, by simp, fun w hw => ?_⟩)
  · simp only [List.mem_cons, List.not_mem_nil, or_false] at hw
    rcases hw with rfl | rfl | rfl
    · exact h1
    · exact h2
    · exact h3
  · simp only [List.drop_succ_cons, List.drop_zero, List.mem_cons, List.not_mem_nil, or_false] at hw
    rcases hw with rfl | rfl
    · exact d2
    · exact d3
theorem el2 {x y : D} (h1 : At x) (h2 : At y) (d2 : datD 63 y = true) : El (.tup [x, y]) := by
  refine .inr (.inr ⟨_, .inr rfl, fun w hw => ?_, by simp, fun w hw => ?_⟩)
  · simp only [List.mem_cons, List.not_mem_nil, or_false] at hw
    rcases hw with rfl | rfl
    · exact h1
    · exact h2
  · simp only [List.drop_succ_cons, List.drop_zero, List.mem_cons, List.not_mem_nil, or_false] at hw
    rw [hw]
    exact d2
theorem at_int {i : Int} : At (.int i) := rfl
theorem el_cD {c : Cl3} (h : NmOk c.1) : El (cD c) := el3 (at_str h) rfl rfl rfl rfl
theorem p_bad {st st2 : D} {a b a2 b2 x : Int} {s : Sto} (h1 : At st) (h2 : At st2) : ∃ d, f__law_bad_call [.tup [st, .int a, .int b], .tup [st2, .int a2, .int b2], .int x] s = .ok d s ∧ El d := by
  obtain ⟨od, e1, o1, o2⟩ := atI_ex (xs := [D.int (-1), .int 2880, .bl true, .non, .str [54, 48], .lst [.int 5], .int 1000000000, .bl false]) (i := x / 9 % 8) (Q := fun d => At d ∧ datD 63 d = true) (by omega) (by simp; omega) (by
    intro d hd
    simp only [List.mem_cons, List.not_mem_nil, or_false] at hd
    rcases hd with rfl | rfl | rfl | rfl | rfl | rfl | rfl | rfl <;> exact ⟨rfl, rfl⟩)
  obtain ⟨wo, e2, o3⟩ := atI_ex (xs := [D.str [], .str [122, 122, 122, 122, 122, 122, 122, 122], .non, .int 5, .lst [.str [97]], .str [65, 98, 99], .bl true, .dct [] []]) (i := x / 9 % 8) (Q := At) (by omega) (by simp; omega) (by
    intro d hd
    simp only [List.mem_cons, List.not_mem_nil, or_false] at hd
    rcases hd with rfl | rfl | rfl | rfl | rfl | rfl | rfl | rfl <;> rfl)
  obtain ⟨d, e3, hd⟩ := atI_ex (xs := [D.tup [wo, .int a, .int b], .tup [st, od, .int b], .tup [st, .int a, od], .tup [st2, .int a, .int b], .tup [st, .int b2, .int (if b2 > b then b2 else b)], .tup [st, .int a, .int (a - 1)], .tup [st, .int a, .int b2], .tup [st, .int (b2 - 1), .int b], .tup [st, .int a]]) (i := x % 9) (Q := El) (by omega) (by simp; omega) (by
    intro d hd
    simp only [List.mem_cons, List.not_mem_nil, or_false] at hd
    rcases hd with rfl | rfl | rfl | rfl | rfl | rfl | rfl | rfl | rfl
    · exact el3 o3 rfl rfl rfl rfl
    · exact el3 h1 o1 rfl o2 rfl
    · exact el3 h1 rfl o1 rfl o2
    · exact el3 h2 rfl rfl rfl rfl
    · exact el3 h1 rfl rfl rfl rfl
    · exact el3 h1 rfl rfl rfl rfl
    · exact el3 h1 rfl rfl rfl rfl
    · exact el3 h1 rfl rfl rfl rfl
    · exact el2 h1 rfl rfl)
  refine ⟨d, ?_, hd⟩
  have q0 : oIx (.tup [st2, .int a2, .int b2]) (.int 0) s = .ok st2 s := rfl
  have q2 : oIx (.tup [st2, .int a2, .int b2]) (.int 2) s = .ok (.int b2) s := rfl
  have key : g__law_bad_call [some (.tup [st, .int a, .int b]), some (.tup [st2, .int a2, .int b2]), some (.int x), none, none, none, none, none, none] s = .rt d s := by
    generalize D.tup [st2, .int a2, .int b2] = G2 at q0 q2
    unfold g__law_bad_call
    refine seq_step (δ' := [some (.tup [st, .int a, .int b]), some G2, some (.int x), some st, some (.int a), some (.int b), none, none, none]) (s' := s) rfl ?_
    generalize D.tup [st, .int a, .int b] = G1
    have pw : cPow 10 9 = true := by decide +kernel
    refine seq_step (δ' := [some G1, some G2, some (.int x), some st, some (.int a), some (.int b), some od, none, none]) (s' := s) (by simp [pw, e1, lim_eq]) ?_
    refine seq_step (δ' := [some G1, some G2, some (.int x), some st, some (.int a), some (.int b), some od, some wo, none]) (s' := s) (by simp [e2, lim_eq]) ?_
    refine seq_step (δ' := [some G1, some G2, some (.int x), some st, some (.int a), some (.int b), some od, some wo, some (.lst [D.tup [wo, .int a, .int b], .tup [st, od, .int b], .tup [st, .int a, od], .tup [st2, .int a, .int b]])]) (s' := s) (by simp [q0, lim_eq]) ?_
    refine seq_step (δ' := [some G1, some G2, some (.int x), some st, some (.int a), some (.int b), some od, some wo, some (.lst [D.tup [wo, .int a, .int b], .tup [st, od, .int b], .tup [st, .int a, od], .tup [st2, .int a, .int b], .tup [st, .int b2, .int (if b2 > b then b2 else b)], .tup [st, .int a, .int (a - 1)], .tup [st, .int a, .int b2]])]) (s' := s) (by simp [q2, lim_eq]) ?_
    simp [q2, lim_eq, e3]
  show finO s.length (g__law_bad_call [some (.tup [st, .int a, .int b]), some (.tup [st2, .int a2, .int b2]), some (.int x), none, none, none, none, none, none] s) = _
  rw [key]
  simp
def odd8 : List D := [.str [], .str [65], .str [97, 98, 99, 100, 101, 102, 103, 104, 105], .non, .int 5, .lst [.str [97]], .str [116, 104, 101, 114, 101], .str [97, 32, 98]]
theorem odd8_at : ∀ d ∈ odd8, At d := by
  intro d hd
  unfold odd8 at hd
  simp only [List.mem_cons, List.not_mem_nil, or_false] at hd
  rcases hd with rfl | rfl | rfl | rfl | rfl | rfl | rfl | rfl <;> rfl
structure GOk (nm : List Nat) (L : Nat) (n r c : D) : Prop where
  n : n = .str nm ∨ n ∈ odd8
  r : Rt r
  a : At c
  e : ∀ xs, c = .lst xs → xs.length ≤ L ∧ ∀ x ∈ xs, El x
theorem GOk.cs {nm : List Nat} {L : Nat} {n r c : D} (g : GOk nm L n r c) : Cs c := ⟨g.a, fun xs e x hx => ((g.e xs e).2 x hx).at⟩
theorem GOk.nat {nm : List Nat} {L : Nat} {n r c : D} (g : GOk nm L n r c) (h : NmOk nm) : At n := by
  rcases g.n with rfl | q
  · exact at_str h
  · exact odd8_at _ q
theorem GOk.mono {nm : List Nat} {L M : Nat} {n r c : D} (g : GOk nm L n r c) (h : L ≤ M) : GOk nm M n r c :=
  ⟨g.n, g.r, g.a, fun xs e => ⟨Nat.le_trans (g.e xs e).1 h, (g.e xs e).2⟩⟩
def toL : D → List D
  | .lst xs => xs
  | _ => []
theorem oSl_l7 {xs : List D} {lo hi : Option Int} {s : Sto} : oSl (.lst xs) lo hi s = .ok (.lst (cutL xs lo hi)) s := rfl
def lsOfT : D → D
  | .tup ys => .lst ys
  | d => d
theorem lsOfT_el {d : D} (h : El d) : El (lsOfT d) := by
  rcases h with rfl | rfl | ⟨ys, rfl | rfl, h⟩
  · exact .inl rfl
  · exact .inr (.inl rfl)
  · exact .inr (.inr ⟨ys, .inl rfl, h⟩)
  · exact .inr (.inr ⟨ys, .inl rfl, h⟩)
theorem mem_cutL {xs : List D} {lo hi : Option Int} {x : D} (h : x ∈ cutL xs lo hi) : x ∈ xs ∧ (cutL xs lo hi).length ≤ xs.length := by
  unfold cutL at h ⊢
  refine ⟨List.mem_of_mem_drop (List.mem_of_mem_take h), ?_⟩
  rw [List.length_take, List.length_drop]
  omega
section
variable {L : Nat} {n r c : D} {x m : Int} {s : Sto}
theorem sp_core {xs : List D} (he : xs.length ≤ L ∧ ∀ x ∈ xs, El x) (hL : L ≤ 100) : ∃ c', atI ([D.non, .tup xs, .lst [], .lst (cutL xs none (some 1)), .lst (List.replicate 7 xs).flatten, .str [99, 97, 108, 108, 115], .int 5, .dct [] [], .lst (xs ++ [.non]), .lst (xs ++ [.str [97, 98, 99]])] ++ [.lst ((xs.filter isT).map lsOfT)]) (m % 11) = some c' ∧ At c' ∧ ∀ ys, c' = .lst ys → ys.length ≤ 7 * L + 1 ∧ ∀ x ∈ ys, El x := by
  obtain ⟨c', e, h⟩ := atI_ex (xs := ([D.non, .tup xs, .lst [], .lst (cutL xs none (some 1)), .lst (List.replicate 7 xs).flatten, .str [99, 97, 108, 108, 115], .int 5, .dct [] [], .lst (xs ++ [.non]), .lst (xs ++ [.str [97, 98, 99]])] ++ [.lst ((xs.filter isT).map lsOfT)])) (i := m % 11) (Q := fun d => At d ∧ ∀ ys, d = .lst ys → ys.length ≤ 7 * L + 1 ∧ ∀ x ∈ ys, El x) (by omega) (by simp; omega) (by
    intro d hd
    simp only [List.cons_append, List.nil_append, List.mem_cons, List.not_mem_nil, or_false] at hd
    rcases hd with rfl | rfl | rfl | rfl | rfl | rfl | rfl | rfl | rfl | rfl | rfl
    · exact ⟨rfl, fun ys e => nomatch e⟩
    · exact ⟨rfl, fun ys e => nomatch e⟩
    · refine ⟨rfl, fun ys e => ?_⟩
      cases e
      exact ⟨by simp, fun x hx => by cases hx⟩
    · refine ⟨rfl, fun ys e => ?_⟩
      cases e
      refine ⟨?_, fun x hx => he.2 x (mem_cutL hx).1⟩
      have : (cutL xs none (some 1)).length ≤ xs.length := by
        unfold cutL
        rw [List.length_take, List.length_drop]
        omega
      omega
    · refine ⟨rfl, fun ys e => ?_⟩
      cases e
      refine ⟨by simp; omega, fun x hx => ?_⟩
      obtain ⟨l, hl, hx⟩ := List.mem_flatten.mp hx
      rw [List.eq_of_mem_replicate hl] at hx
      exact he.2 x hx
    · exact ⟨rfl, fun ys e => nomatch e⟩
    · exact ⟨rfl, fun ys e => nomatch e⟩
    · exact ⟨rfl, fun ys e => nomatch e⟩
    · refine ⟨rfl, fun ys e => ?_⟩
      cases e
      refine ⟨by simp; omega, fun x hx => ?_⟩
      rcases List.mem_append.mp hx with h | h
      · exact he.2 x h
      · rw [List.mem_singleton.mp h]; exact .inl rfl
    · refine ⟨rfl, fun ys e => ?_⟩
      cases e
      refine ⟨by simp; omega, fun x hx => ?_⟩
      rcases List.mem_append.mp hx with h | h
      · exact he.2 x h
      · rw [List.mem_singleton.mp h]; exact .inr (.inl rfl)
    · refine ⟨rfl, fun ys e => ?_⟩
      cases e
      refine ⟨?_, fun x hx => ?_⟩
      · have := List.length_filter_le isT xs
        rw [List.length_map]
        omega
      · obtain ⟨y, hy, rfl⟩ := List.mem_map.mp hx
        exact lsOfT_el (he.2 y (List.mem_filter.mp hy).1))
  exact ⟨c', e, h.1, h.2⟩
theorem sp_list {o0 o6 o7 o8 o9 o10 o11 : Option D} (ha : At c) (he : ∀ xs, c = .lst xs → xs.length ≤ L ∧ ∀ x ∈ xs, El x) (hL : L ≤ 100) :
    ∃ c', (sSeq (sSet 6 (dIfE (tst (dBi (bIsO parT parA csT) (aCons (dVar 4) (aCons (dC (.ty "list")) aNil)))) (dBi bList (aCons (dVar 4) aNil)) (dLst aNil)))
    (sSeq (sSet 7 (dLst (aCons (dC .non) (aCons (dBi bTuple (aCons (dVar 6) aNil)) (aCons (dLst aNil) (aCons (dSl (dVar 6) pNone (pSome (dC (.int 1)))) (aCons (dOp oMulA (dVar 6) (dC (.int 7))) (aCons (dC (.str [99, 97, 108, 108, 115])) (aCons (dC (.int 5)) (aCons (dC (.dct [] [])) (aCons (dOp oAdd (dVar 6) (dLst (aCons (dC .non) aNil))) (aCons (dOp oAdd (dVar 6) (dLst (aCons (dC (.str [97, 98, 99])) aNil))) aNil))))))))))))
    (sRet (dTup (aCons (dVar 2) (aCons (dVar 3) (aCons (dOp oIx (dOp oAdd (dVar 7) (dLst (aCons (dLc (itAny (dVar 6)) (tgN 11) (tst (dBi (bIsO parT parA csT) (aCons (dVar 11) (aCons (dC (.ty "tuple")) aNil)))) (dBi bList (aCons (dVar 11) aNil)) [11]) aNil))) (dOp oMod (dVar 5) (dC (.int 11)))) aNil))))))) [o0, some (.int x), some n, some r, some c, some (.int m), o6, o7, o8, o9, o10, o11] s = .rt (.tup [n, r, c']) s ∧ At c' ∧ ∀ ys, c' = .lst ys → ys.length ≤ 7 * L + 1 ∧ ∀ x ∈ ys, El x := by
  obtain ⟨xs, hx, hxs⟩ : ∃ xs, toL c = xs ∧ xs.length ≤ L ∧ ∀ x ∈ xs, El x := by
    refine ⟨_, rfl, ?_⟩
    cases c with
    | lst xs => exact he xs rfl
    | _ => exact ⟨by simp [toL], fun x hx => by cases hx⟩
  obtain ⟨c', h1, h2, h3⟩ := sp_core (m := m) hxs hL
  refine ⟨c', ?_, h2, h3⟩
  have i1 := iso_l (s := s) ha
  have l7 : xs.length * 7 ≤ 1000000 := by omega
  have l8 : xs.length + 1 ≤ 1000000 := by omega
  have l9 : xs.length ≤ 1000000 := by omega
  refine seq_step (δ' := [o0, some (.int x), some n, some r, some c, some (.int m), some (.lst xs), o7, o8, o9, o10, o11]) (s' := s) ?_ ?_
  · cases c with
    | lst ys =>
      have : ys = xs := hx
      subst this
      have i1' : bIsO parT parA csT [.lst ys, .ty "list"] s = .ok (.bl true) s := i1
      simp [i1', l9, lim_eq]
    | _ =>
      have : [] = xs := hx
      subst this
      simp [i1, isL]
  refine seq_step (δ' := [o0, some (.int x), some n, some r, some c, some (.int m), some (.lst xs), some (.lst [D.non, .tup xs, .lst [], .lst (cutL xs none (some 1)), .lst (List.replicate 7 xs).flatten, .str [99, 97, 108, 108, 115], .int 5, .dct [] [], .lst (xs ++ [.non]), .lst (xs ++ [.str [97, 98, 99]])]), o8, o9, o10, o11]) (s' := s) ?_ ?_
  · simp [oSl_l7, l7, l8, l9, lim_eq]
  have r1 := lcL_fil (s := s) (δ := [o0, some (.int x), some n, some r, some c, some (.int m), some (.lst xs), some (.lst [D.non, .tup xs, .lst [], .lst (cutL xs none (some 1)), .lst (List.replicate 7 xs).flatten, .str [99, 97, 108, 108, 115], .int 5, .dct [] [], .lst (xs ++ [.non]), .lst (xs ++ [.str [97, 98, 99]])]), o8, o9, o10, none]) (t := tgN 11) (c := tst (dBi (bIsO parT parA csT) (aCons (dVar 11) (aCons (dC (.ty "tuple")) aNil)))) (e := dBi bList (aCons (dVar 11) aNil)) lsOfT isT xs [] (by rw [lim_eq]; simp; omega) (by
    intro d hd
    refine ⟨_, rfl, ?_, fun ht => ?_⟩
    · have := iso_t (s := s) (hxs.2 d hd).at.1
      simp only [tst_eq, dBi_eq, aCons_eq, aNil_eq, dC_eq, dVar_eq, List.set, List.getElem?_cons_succ, List.getElem?_cons_zero, bind_ok, this]
    · cases d with
      | tup ys =>
        simp only [dBi_eq, aCons_eq, aNil_eq, dVar_eq, List.set, List.getElem?_cons_succ, List.getElem?_cons_zero, bind_ok]
        rfl
      | _ => cases ht)
  rw [List.nil_append] at r1
  have hB : ([D.non, .tup xs, .lst [], .lst (cutL xs none (some 1)), .lst (List.replicate 7 xs).flatten, .str [99, 97, 108, 108, 115], .int 5, .dct [] [], .lst (xs ++ [.non]), .lst (xs ++ [.str [97, 98, 99]])] : List D).length = 10 := rfl
  generalize [D.non, .tup xs, .lst [], .lst (cutL xs none (some 1)), .lst (List.replicate 7 xs).flatten, .str [99, 97, 108, 108, 115], .int 5, .dct [] [], .lst (xs ++ [.non]), .lst (xs ++ [.str [97, 98, 99]])] = B at r1 h1 hB
  have ad : oAdd (.lst B) (.lst [.lst ((xs.filter isT).map lsOfT)]) s = .ok (.lst (B ++ [.lst ((xs.filter isT).map lsOfT)])) s := by rw [oAdd_lst, if_pos (by rw [hB, lim_eq]; simp)]
  have md : oMod (.int m) (.int 11) s = .ok (.int (m % 11)) s := by simp
  have ix : oIx (.lst (B ++ [.lst ((xs.filter isT).map lsOfT)])) (.int (m % 11)) s = .ok c' s := by rw [oIx_lst, h1]
  simp only [sRet_eq, dTup_eq, aCons_eq, aNil_eq, dOp_eq, dLst_eq, dLc_eq, itAny_eq, dC_eq, dVar_eq, List.getElem?_cons_succ, List.getElem?_cons_zero, bind_ok, wipeE_cons, wipeE_nil, List.set]
  rw [r1]
  simp only [bind_ok]
  rw [if_pos (by rw [lim_eq]; simp)]
  simp only [bind_ok, ad, md, ix, out_ok]
  rfl
end
end Rb
namespace Rb
open PySem PySem.Spec L2 Mp
theorem dats_of {n : Nat} : ∀ {xs : List D}, (∀ x ∈ xs, datD n x = true) → datDs n xs = true
  | [], _ => datDs_nil
  | x :: xs, h => by
    rw [datDs_cons, h x List.mem_cons_self, dats_of fun y hy => h y (List.mem_cons_of_mem _ hy)]
    rfl
theorem cond3 {δ : Mp.Env} {s : Sto} {i : Nat} {d : D} (h : δ[i]? = some (some d)) (ha : At d) :
    (tOrD (tNotD (tst (dBi (bIsO parT parA csT) (aCons (dVar i) (aCons (dC (.ty "tuple")) aNil))))) (tst (dOp oNe (dBi bLen (aCons (dVar i) aNil)) (dC (.int 3))))) δ s = .ok (!tp3 d) s := by
  have i1 := iso_t (s := s) ha
  cases d with
  | tup ys =>
    have i1' : bIsO parT parA csT [.tup ys, .ty "tuple"] s = .ok (.bl true) s := i1
    by_cases c : ys.length = 3
    · simp [h, i1', tp3, c]
    · have : ¬ ((ys.length : Int) = 3) := by omega
      simp [h, i1', tp3, c, this]
  | _ => simp [h, i1, isT, tp3]
theorem tp3_ex {d : D} (h : tp3 d = true) : ∃ st a b, d = .tup [st, a, b] := by
  cases d with
  | tup ys =>
    have : ys.length = 3 := of_decide_eq_true h
    match ys, this with
    | [st, a, b], _ => exact ⟨st, a, b, rfl⟩
  | _ => cases h
theorem El.t3 {st a b : D} (h : El (.tup [st, a, b])) : At st ∧ At a ∧ At b ∧ datD 63 a = true ∧ datD 63 b = true := by
  rcases h with h | h | ⟨ys, h | h, h1, _, h2⟩
  · cases h
  · cases h
  · cases h
  · cases h
    exact ⟨h1 _ (by simp), h1 _ (by simp), h1 _ (by simp), h2 _ (by simp), h2 _ (by simp)⟩
theorem amD_ex {lo hi : Int} {d : D} (h : amD lo hi d = true) : ∃ i, d = .int i := by
  cases d with
  | int i => exact ⟨i, rfl⟩
  | _ => cases h
section
variable {nm : List Nat} {L : Nat} {n r c : D} {x : Int} {s : Sto}
theorem sp_tail {G : D} {m : Int} {o6 o7 o8 o9 o10 o11 : Option D} {xs : List D} (he : xs.length ≤ L ∧ ∀ x ∈ xs, El x) (h2 : 2 ≤ xs.length) (hL : L ≤ 100) (hm : 0 ≤ m) :
    ∃ ys, (sSeq (sSet 8 (dOp oMod (dVar 5) (dBi bLen (aCons (dVar 4) aNil))))
    (sSeq (sSet 9 (dOp oIx (dVar 4) (dVar 8)))
    (sSeq (sIf (tOrD (tNotD (tst (dBi (bIsO parT parA csT) (aCons (dVar 9) (aCons (dC (.ty "tuple")) aNil))))) (tst (dOp oNe (dBi bLen (aCons (dVar 9) aNil)) (dC (.int 3))))) (sRet (dTup (aCons (dVar 2) (aCons (dVar 3) (aCons (dVar 4) aNil))))) sPass)
    (sSeq (sSet 10 (dIfE (tst (dOp oGt (dVar 8) (dC (.int 0)))) (dOp oIx (dVar 4) (dOp oSub (dVar 8) (dC (.int 1)))) (dTup (aCons (dOp oIx (dVar 9) (dC (.int 0))) (aCons (dC (.int 0)) (aCons (dC (.int 0)) aNil))))))
    (sSeq (sIf (tOrD (tNotD (tst (dBi (bIsO parT parA csT) (aCons (dVar 10) (aCons (dC (.ty "tuple")) aNil))))) (tst (dOp oNe (dBi bLen (aCons (dVar 10) aNil)) (dC (.int 3))))) (sRet (dTup (aCons (dVar 2) (aCons (dVar 3) (aCons (dVar 4) aNil))))) sPass)
    (sSeq (sIf (tst (dOp oNe (dLc (itAny (dOp oAdd (dSl (dVar 9) (pSome (dC (.int 1))) pNone) (dSl (dVar 10) (pSome (dC (.int 1))) pNone))) (tgN 11) (tNotD (tst (dCall f__law_among (aCons (dVar 11) (aCons (dUn (fun i => -i) (dC (.int 9))) (aCons (dC (.int 9999)) aNil)))))) (dVar 11) [11]) (dLst aNil))) (sRet (dTup (aCons (dVar 2) (aCons (dVar 3) (aCons (dVar 4) aNil))))) sPass)
    (sRet (dTup (aCons (dVar 2) (aCons (dVar 3) (aCons (dOp oAdd (dOp oAdd (dSl (dVar 4) pNone (pSome (dVar 8))) (dLst (aCons (dCall f__law_bad_call (aCons (dVar 9) (aCons (dVar 10) (aCons (dOp oDiv (dVar 5) (dC (.int 6))) aNil)))) aNil))) (dSl (dVar 4) (pSome (dOp oAdd (dVar 8) (dC (.int 1)))) pNone)) aNil))))))))))) [some G, some (.int x), some n, some r, some (.lst xs), some (.int m), o6, o7, o8, o9, o10, o11] s = .rt (.tup [n, r, .lst ys]) s ∧ ys.length ≤ L ∧ ∀ x ∈ ys, El x := by
  obtain ⟨k, hk, hk2⟩ : ∃ k : Nat, (k : Int) = m % (xs.length : Int) ∧ k < xs.length := by
    have h1 := Int.emod_nonneg m (show (xs.length : Int) ≠ 0 by omega)
    have h2 := Int.emod_lt_of_pos m (show (0 : Int) < xs.length by omega)
    exact ⟨(m % (xs.length : Int)).toNat, by omega, by omega⟩
  have w0 : (0 : Int) < xs.length := by omega
  have w0' : 0 < xs.length := by omega
  have md : oMod (.int m) (.int (xs.length : Int)) s = .ok (.int (k : Int)) s := by
    rw [hk]
    simp [w0, w0']
  obtain ⟨d, hd⟩ : ∃ d, xs[k]? = some d := ⟨_, List.getElem?_eq_getElem hk2⟩
  have ed := he.2 d (List.mem_of_getElem? hd)
  have ix : oIx (.lst xs) (.int (k : Int)) s = .ok d s := by rw [oIx_lst, atI_nat hk2, hd]
  have same : xs.length ≤ L ∧ ∀ x ∈ xs, El x := he
  have ret : ∀ (δ : Mp.Env), δ[2]? = some (some n) → δ[3]? = some (some r) → δ[4]? = some (some (.lst xs)) → sRet (dTup (aCons (dVar 2) (aCons (dVar 3) (aCons (dVar 4) aNil)))) δ s = .rt (.tup [n, r, .lst xs]) s := fun δ h1 h2 h3 => by simp [h1, h2, h3, lim_eq]
  have st1 : ∀ (F : DS) (δ : Mp.Env) (t : DT), δ[2]? = some (some n) → δ[3]? = some (some r) → δ[4]? = some (some (.lst xs)) → t δ s = .ok true s → sSeq (sIf t (sRet (dTup (aCons (dVar 2) (aCons (dVar 3) (aCons (dVar 4) aNil))))) sPass) F δ s = .rt (.tup [n, r, .lst xs]) s := fun F δ t h1 h2 h3 h4 => by
    refine seq_ret ?_
    rw [sIf_eq, h4]
    exact ret δ h1 h2 h3
  have st0 : ∀ (F : DS) (δ : Mp.Env) (t : DT) (o : Out), t δ s = .ok false s → F δ s = o → sSeq (sIf t (sRet (dTup (aCons (dVar 2) (aCons (dVar 3) (aCons (dVar 4) aNil))))) sPass) F δ s = o := fun F δ t o h4 h5 => by
    refine seq_step (δ' := δ) (s' := s) ?_ h5
    rw [sIf_eq, h4]
    rfl
  have s8 : (sSet 8 (dOp oMod (dVar 5) (dBi bLen (aCons (dVar 4) aNil)))) [some G, some (.int x), some n, some r, some (.lst xs), some (.int m), o6, o7, o8, o9, o10, o11] s = .nx [some G, some (.int x), some n, some r, some (.lst xs), some (.int m), o6, o7, some (.int (k : Int)), o9, o10, o11] s := by
    simp only [sSet_eq, dOp_eq, dBi_eq, aCons_eq, aNil_eq, dVar_eq, List.getElem?_cons_succ, List.getElem?_cons_zero, bind_ok, bLen_lst, md, out_ok, List.set]
  have s9 : (sSet 9 (dOp oIx (dVar 4) (dVar 8))) [some G, some (.int x), some n, some r, some (.lst xs), some (.int m), o6, o7, some (.int (k : Int)), o9, o10, o11] s = .nx [some G, some (.int x), some n, some r, some (.lst xs), some (.int m), o6, o7, some (.int (k : Int)), some d, o10, o11] s := by
    simp only [sSet_eq, dOp_eq, dVar_eq, List.getElem?_cons_succ, List.getElem?_cons_zero, bind_ok, ix, out_ok, List.set]
  have c9 := cond3 (δ := [some G, some (.int x), some n, some r, some (.lst xs), some (.int m), o6, o7, some (.int (k : Int)), some d, o10, o11]) (s := s) (i := 9) rfl ed.at.1
  cases t3 : tp3 d with
  | false =>
    rw [t3] at c9
    exact ⟨xs, seq_step s8 (seq_step s9 (st1 _ _ _ rfl rfl rfl c9)), same⟩
  | true =>
    rw [t3] at c9
    obtain ⟨st, a, b, rfl⟩ := tp3_ex t3
    obtain ⟨a1, a2, a3, a4, a5⟩ := ed.t3
    have s10 : ∃ d2, (sSet 10 (dIfE (tst (dOp oGt (dVar 8) (dC (.int 0)))) (dOp oIx (dVar 4) (dOp oSub (dVar 8) (dC (.int 1)))) (dTup (aCons (dOp oIx (dVar 9) (dC (.int 0))) (aCons (dC (.int 0)) (aCons (dC (.int 0)) aNil)))))) [some G, some (.int x), some n, some r, some (.lst xs), some (.int m), o6, o7, some (.int (k : Int)), some (.tup [st, a, b]), o10, o11] s = .nx [some G, some (.int x), some n, some r, some (.lst xs), some (.int m), o6, o7, some (.int (k : Int)), some (.tup [st, a, b]), some d2, o11] s ∧ El d2 := by
      by_cases k0 : k = 0
      · subst k0
        refine ⟨.tup [st, .int 0, .int 0], ?_, el3 a1 rfl rfl rfl rfl⟩
        have i0 : oIx (.tup [st, a, b]) (.int 0) s = .ok st s := rfl
        generalize D.tup [st, a, b] = CC at i0
        simp [i0, lim_eq]
      · have k1 : k - 1 < xs.length := by omega
        obtain ⟨d2, hd2⟩ : ∃ d, xs[k - 1]? = some d := ⟨_, List.getElem?_eq_getElem k1⟩
        have e1 : ((k - 1 : Nat) : Int) = (k : Int) - 1 := by omega
        have ix2 : oIx (.lst xs) (.int ((k : Int) - 1)) s = .ok d2 s := by rw [← e1, oIx_lst, atI_nat k1, hd2]
        have k2 : (0 : Int) < (k : Int) := by omega
        have k2' : 0 < k := by omega
        refine ⟨d2, ?_, he.2 d2 (List.mem_of_getElem? hd2)⟩
        have gt : oGt (.int (k : Int)) (.int 0) s = .ok (.bl true) s := by simp [k2, k2']
        have sb : oSub (.int (k : Int)) (.int 1) s = .ok (.int ((k : Int) - 1)) s := by simp
        simp only [sSet_eq, dIfE_eq, tst_eq, dOp_eq, dVar_eq, dC_eq, List.getElem?_cons_succ, List.getElem?_cons_zero, bind_ok, gt, sb, ix2, if_true, out_ok, List.set]
    obtain ⟨d2, s10, ed2⟩ := s10
    have c10 := cond3 (δ := [some G, some (.int x), some n, some r, some (.lst xs), some (.int m), o6, o7, some (.int (k : Int)), some (.tup [st, a, b]), some d2, o11]) (s := s) (i := 10) rfl ed2.at.1
    cases t3' : tp3 d2 with
    | false =>
      rw [t3'] at c10
      exact ⟨xs, seq_step s8 (seq_step s9 (st0 _ _ _ _ c9 (seq_step s10 (st1 _ _ _ rfl rfl rfl c10)))), same⟩
    | true =>
      rw [t3'] at c10
      obtain ⟨st2, a', b', rfl⟩ := tp3_ex t3'
      obtain ⟨b1, b2, b3, b4, b5⟩ := ed2.t3
      have sl1 : oSl (.tup [st, a, b]) (some 1) none s = .ok (.tup [a, b]) s := rfl
      have sl2 : oSl (.tup [st2, a', b']) (some 1) none s = .ok (.tup [a', b']) s := rfl
      have ad : oAdd (.tup [a, b]) (.tup [a', b']) s = .ok (.tup [a, b, a', b']) s := by simp [lim_eq]
      have mem : ∀ y ∈ [a, b, a', b'], At y ∧ datD 63 y = true := by
        intro y hy
        simp only [List.mem_cons, List.not_mem_nil, or_false] at hy
        rcases hy with rfl | rfl | rfl | rfl
        · exact ⟨a2, a4⟩
        · exact ⟨a3, a5⟩
        · exact ⟨b2, b4⟩
        · exact ⟨b3, b5⟩
      have r1 := lcL_fil (s := s) (δ := [some G, some (.int x), some n, some r, some (.lst xs), some (.int m), o6, o7, some (.int (k : Int)), some (.tup [st, a, b]), some (.tup [st2, a', b']), none]) (t := tgN 11) (c := tNotD (tst (dCall f__law_among (aCons (dVar 11) (aCons (dUn (fun i => -i) (dC (.int 9))) (aCons (dC (.int 9999)) aNil)))))) (e := dVar 11) id (fun y => !amD (-9) 9999 y) [a, b, a', b'] [] (by rw [lim_eq]; simp) (by
        intro y hy
        refine ⟨_, rfl, ?_, fun _ => by simp⟩
        have := p_lamong (lo := -9) (hi := 9999) (s := s) (mem y hy).1
        simp only [tNot_eq, tst_eq, dCall_eq, aCons_eq, aNil_eq, dUn_eq, dC_eq, dVar_eq, List.set, List.getElem?_cons_succ, List.getElem?_cons_zero, bind_ok, this])
      rw [List.nil_append, List.map_id] at r1
      have dz : datDs 63 ([a, b, a', b'].filter fun y => !amD (-9) 9999 y) = true := dats_of fun y hy => (mem y (List.mem_filter.mp hy).1).2
      have al : ∀ y ∈ [a, b, a', b'], amD (-9) 9999 y = false → y ∈ [a, b, a', b'].filter fun y => !amD (-9) 9999 y := fun y hy h => List.mem_filter.mpr ⟨hy, by rw [h]; rfl⟩
      generalize hZ : [a, b, a', b'].filter (fun y => !amD (-9) 9999 y) = Z at r1 dz al
      have ne : oNe (.lst Z) (.lst []) s = .ok (.bl (!Z.isEmpty)) s := by
        show oEqG true (.lst Z) (.lst []) s = _
        rw [oEq_ll dz datDs_nil]
        cases Z with
        | nil => rfl
        | cons => rfl
      have c11 : (tst (dOp oNe (dLc (itAny (dOp oAdd (dSl (dVar 9) (pSome (dC (.int 1))) pNone) (dSl (dVar 10) (pSome (dC (.int 1))) pNone))) (tgN 11) (tNotD (tst (dCall f__law_among (aCons (dVar 11) (aCons (dUn (fun i => -i) (dC (.int 9))) (aCons (dC (.int 9999)) aNil)))))) (dVar 11) [11]) (dLst aNil))) [some G, some (.int x), some n, some r, some (.lst xs), some (.int m), o6, o7, some (.int (k : Int)), some (.tup [st, a, b]), some (.tup [st2, a', b']), o11] s = .ok (!Z.isEmpty) s := by
        generalize D.tup [st, a, b] = G1 at sl1 r1 ⊢
        generalize D.tup [st2, a', b'] = G2 at sl2 r1 ⊢
        simp only [tst_eq, dOp_eq, dLc_eq, itAny_eq, dSl_eq, pSome_eq, pNone_eq, dC_eq, dVar_eq, dLst_eq, aNil_eq, List.getElem?_cons_succ, List.getElem?_cons_zero, bind_ok, sl1, sl2, ad, wipeE_cons, wipeE_nil, List.set]
        rw [r1]
        simp only [bind_ok]
        rw [if_pos (by decide)]
        simp only [bind_ok, ne]
      cases hZe : Z.isEmpty with
      | false =>
        rw [hZe] at c11
        exact ⟨xs, seq_step s8 (seq_step s9 (st0 _ _ _ _ c9 (seq_step s10 (st0 _ _ _ _ c10 (st1 _ _ _ rfl rfl rfl c11))))), same⟩
      | true =>
        rw [hZe] at c11
        have z0 : Z = [] := List.isEmpty_iff.mp hZe
        have intz : ∀ y ∈ [a, b, a', b'], ∃ i, y = .int i := fun y hy => by
          cases q : amD (-9) 9999 y with
          | true => exact amD_ex q
          | false =>
            have := al y hy q
            rw [z0] at this
            cases this
        obtain ⟨ia, rfl⟩ := intz a (by simp)
        obtain ⟨ib, rfl⟩ := intz b (by simp)
        obtain ⟨ic, rfl⟩ := intz a' (by simp)
        obtain ⟨id', rfl⟩ := intz b' (by simp)
        obtain ⟨w, hw, ew⟩ := p_bad (a := ia) (b := ib) (a2 := ic) (b2 := id') (x := m / 6) (s := s) a1 b1
        have l1 : (xs.take k).length + 1 + (xs.drop (k + 1)).length ≤ L := by
          rw [List.length_take, List.length_drop]
          omega
        refine ⟨xs.take k ++ [w] ++ xs.drop (k + 1), seq_step s8 (seq_step s9 (st0 _ _ _ _ c9 (seq_step s10 (st0 _ _ _ _ c10 (st0 _ _ _ _ c11 ?_))))), ?_, ?_⟩
        · have cu1 := cut_take (xs := xs) (i := k) (by omega)
          have cu2 := cut_drop (xs := xs) (i := k + 1) (by omega)
          rw [Int.natCast_add] at cu2
          have cu2' : cutL xs (some ((k : Int) + 1)) none = xs.drop (k + 1) := cu2
          have A1 : oAdd (.lst (xs.take k)) (.lst [w]) s = .ok (.lst (xs.take k ++ [w])) s := by rw [oAdd_lst, if_pos (by rw [lim_eq, List.length_singleton]; omega)]
          have A2 : oAdd (.lst (xs.take k ++ [w])) (.lst (xs.drop (k + 1))) s = .ok (.lst (xs.take k ++ [w] ++ xs.drop (k + 1))) s := by rw [oAdd_lst, if_pos (by rw [lim_eq, List.length_append, List.length_singleton]; omega)]
          have D1 : oDiv (.int m) (.int 6) s = .ok (.int (m / 6)) s := by simp
          have P1 : oAdd (.int (k : Int)) (.int 1) s = .ok (.int ((k : Int) + 1)) s := by simp
          generalize D.tup [st, .int ia, .int ib] = G1 at hw
          generalize D.tup [st2, .int ic, .int id'] = G2 at hw
          have L1 : 1 ≤ lim := by decide
          simp only [sRet_eq, dTup_eq, dOp_eq, dSl_eq, pSome_eq, pNone_eq, dLst_eq, dCall_eq, aCons_eq, aNil_eq, dC_eq, dVar_eq, List.getElem?_cons_succ, List.getElem?_cons_zero, bind_ok, oSl_l7, cu1, cu2', D1, P1, hw, List.length_singleton, L1, if_true, A1, A2]
          rfl
        · rw [List.length_append, List.length_append, List.length_singleton]
          exact l1
        · intro y hy
          rw [List.mem_append, List.mem_append] at hy
          rcases hy with (hy | hy) | hy
          · exact he.2 y (List.mem_of_mem_take hy)
          · rw [List.mem_singleton.mp hy]; exact ew
          · exact he.2 y (List.mem_of_mem_drop hy)
theorem p_spoilt (g : GOk nm L n r c) (hL : L ≤ 100) (hx : 0 ≤ x) : ∃ n' r' c', f__law_spoilt [.tup [n, r, c], .int x] s = .ok (.tup [n', r', c']) s ∧ GOk nm (7 * L + 1) n' r' c' := by
  have key : ∃ n' r' c', g__law_spoilt [some (.tup [n, r, c]), some (.int x), none, none, none, none, none, none, none, none, none, none] s = .rt (.tup [n', r', c']) s ∧ GOk nm (7 * L + 1) n' r' c' := by
    have S1 : sAsg (dVar 0) (tgT [(tgN 2), (tgN 3), (tgN 4)]) [some (.tup [n, r, c]), some (.int x), none, none, none, none, none, none, none, none, none, none] s = .nx [some (.tup [n, r, c]), some (.int x), some n, some r, some c, none, none, none, none, none, none, none] s := rfl
    have S2 : (sSet 5 (dOp oDiv (dVar 1) (dC (.int 8)))) [some (.tup [n, r, c]), some (.int x), some n, some r, some c, none, none, none, none, none, none, none] s = .nx [some (.tup [n, r, c]), some (.int x), some n, some r, some c, some (.int (x / 8)), none, none, none, none, none, none] s := by
      generalize D.tup [n, r, c] = G
      simp
    have g7 := g.mono (show L ≤ 7 * L + 1 by omega)
    unfold g__law_spoilt
    generalize D.tup [n, r, c] = G at S1 S2 ⊢
    by_cases h0 : x % 8 = 0
    · obtain ⟨d, hd, od⟩ := atI_ex (xs := odd8) (i := x / 8 % 8) (Q := fun d => d ∈ odd8) (by omega) (by simp [odd8]; omega) (fun d hd => hd)
      unfold odd8 at hd
      refine ⟨d, r, c, seq_step S1 (seq_step S2 (seq_ret ?_)), ⟨.inr od, g7.r, g7.a, g7.e⟩⟩
      simp [h0, hd, lim_eq]
    · have S3 : ∀ F : DS, (sIf (tst (dOp oEq (dOp oMod (dVar 1) (dC (.int 8))) (dC (.int 0)))) F sPass) [some G, some (.int x), some n, some r, some c, some (.int (x / 8)), none, none, none, none, none, none] s = .nx [some G, some (.int x), some n, some r, some c, some (.int (x / 8)), none, none, none, none, none, none] s := fun F => by simp [h0]
      by_cases h1 : x % 8 = 1
      · obtain ⟨d, hd, od⟩ := atI_ex (xs := [D.str [], .non, .int 5, .lst [.str [100, 97, 105, 108, 121]], .str [111, 116, 104, 101, 114], .str [68, 97, 105, 108, 121], .bl true, .dct [] []]) (i := x / 8 % 8) (Q := Rt) (by omega) (by simp; omega) (by
          intro d hd
          simp only [List.mem_cons, List.not_mem_nil, or_false] at hd
          unfold Rt
          rcases hd with rfl | rfl | rfl | rfl | rfl | rfl | rfl | rfl
          · exact .inl ⟨_, rfl, by decide, rfl⟩
          · exact .inr (.inl rfl)
          · exact .inr (.inr (.inl rfl))
          · exact .inr (.inr (.inr (.inr (.inl rfl))))
          · exact .inl ⟨_, rfl, by decide, rfl⟩
          · exact .inl ⟨_, rfl, by decide, rfl⟩
          · exact .inr (.inr (.inr (.inl rfl)))
          · exact .inr (.inr (.inr (.inr (.inr rfl)))))
        refine ⟨n, d, c, seq_step S1 (seq_step S2 (seq_step (S3 _) (seq_ret ?_))), ⟨g7.n, od, g7.a, g7.e⟩⟩
        simp [h1, hd, lim_eq]
      · have S4 : ∀ F : DS, (sIf (tst (dOp oEq (dOp oMod (dVar 1) (dC (.int 8))) (dC (.int 1)))) F sPass) [some G, some (.int x), some n, some r, some c, some (.int (x / 8)), none, none, none, none, none, none] s = .nx [some G, some (.int x), some n, some r, some c, some (.int (x / 8)), none, none, none, none, none, none] s := fun F => by simp [h1]
        have i1 := iso_l (s := s) g.a
        have T : (tOrD (tst (dOp oEq (dOp oMod (dVar 1) (dC (.int 8))) (dC (.int 2)))) (tOrD (tNotD (tst (dBi (bIsO parT parA csT) (aCons (dVar 4) (aCons (dC (.ty "list")) aNil))))) (tst (dOp oLt (dBi bLen (aCons (dVar 4) aNil)) (dC (.int 2)))))) [some G, some (.int x), some n, some r, some c, some (.int (x / 8)), none, none, none, none, none, none] s = .ok (decide (x % 8 = 2) || !(isL c && decide (2 ≤ (toL c).length))) s := by
          by_cases h2 : x % 8 = 2
          · simp [h2]
          · cases c with
            | lst xs =>
              have i1' : bIsO parT parA csT [.lst xs, .ty "list"] s = .ok (.bl true) s := i1
              by_cases hl : 2 ≤ xs.length
              · have : ¬ (xs.length : Int) < 2 := by omega
                have h' : ¬ xs.length < 2 := by omega
                simp [h2, i1', isL, toL, this, hl, h']
              · have : (xs.length : Int) < 2 := by omega
                have h' : xs.length < 2 := by omega
                simp [h2, i1', isL, toL, this, hl, h']
            | _ => simp [h2, i1, isL]
        cases q : (decide (x % 8 = 2) || !(isL c && decide (2 ≤ (toL c).length))) with
        | true =>
          rw [q] at T
          obtain ⟨c', k1, k2, k3⟩ := sp_list (n := n) (r := r) (x := x) (m := x / 8) (s := s) (o0 := some G) (o6 := none) (o7 := none) (o8 := none) (o9 := none) (o10 := none) (o11 := none) g.a g.e hL
          refine ⟨n, r, c', seq_step S1 (seq_step S2 (seq_step (S3 _) (seq_step (S4 _) (seq_ret ?_)))), ⟨g7.n, g7.r, k2, k3⟩⟩
          rw [sIf_eq, T]
          exact k1
        | false =>
          rw [q] at T
          have S5 : ∀ F : DS, (sIf (tOrD (tst (dOp oEq (dOp oMod (dVar 1) (dC (.int 8))) (dC (.int 2)))) (tOrD (tNotD (tst (dBi (bIsO parT parA csT) (aCons (dVar 4) (aCons (dC (.ty "list")) aNil))))) (tst (dOp oLt (dBi bLen (aCons (dVar 4) aNil)) (dC (.int 2)))))) F sPass) [some G, some (.int x), some n, some r, some c, some (.int (x / 8)), none, none, none, none, none, none] s = .nx [some G, some (.int x), some n, some r, some c, some (.int (x / 8)), none, none, none, none, none, none] s := fun F => by
            rw [sIf_eq, T]
            rfl
          cases c with
          | lst xs =>
            have hl : 2 ≤ xs.length := by
              have q' : (decide (x % 8 = 2) || !(true && decide (2 ≤ xs.length))) = false := q
              simp at q'
              exact q'.2
            obtain ⟨ys, k1, k2, k3⟩ := sp_tail (G := G) (n := n) (r := r) (x := x) (m := x / 8) (s := s) (o6 := none) (o7 := none) (o8 := none) (o9 := none) (o10 := none) (o11 := none) (g.e xs rfl) hl hL (by omega)
            refine ⟨n, r, .lst ys, seq_step S1 (seq_step S2 (seq_step (S3 _) (seq_step (S4 _) (seq_step (S5 _) k1)))), ⟨g7.n, g7.r, rfl, fun zs e => ?_⟩⟩
            cases e
            exact ⟨by omega, k3⟩
          | _ => simp [isL] at q
  obtain ⟨n', r', c', k1, k2⟩ := key
  refine ⟨n', r', c', ?_, k2⟩
  show finO s.length (g__law_spoilt [some (.tup [n, r, c]), some (.int x), none, none, none, none, none, none, none, none, none, none] s) = _
  rw [k1]
  simp
end
end Rb
namespace Rb
open PySem PySem.Spec L2 Mp
theorem p_cell {ns : List Int} {k : Int} {s : Sto} (h : 0 ≤ k ∧ k < 1000) : ∃ x, f__law_cell_at [.scr ns, .int k] s = .ok (.int x) s := by
  by_cases hk : k < ns.length
  · obtain ⟨d, h1, h2⟩ := atI_mem (xs := ns.map D.int) h.1 (by rw [List.length_map]; exact hk)
    obtain ⟨x, _, rfl⟩ := List.mem_map.mp h2
    refine ⟨x, ?_⟩
    simp [f__law_cell_at, mkF, g__law_cell_at, hk, h1]
  · refine ⟨0, ?_⟩
    simp [f__law_cell_at, mkF, g__law_cell_at, hk]
mutual
theorem below_up {n m : Nat} (h : n ≤ m) : ∀ {d : D}, below n d = true → below m d = true
  | .loc k, e => by
    have : k < n := of_decide_eq_true e
    exact decide_eq_true (by omega)
  | .tup xs, e => belows_up h (xs := xs) e
  | .lst xs, e => belows_up h (xs := xs) e
  | .dct ks xs, e => belows_up h (xs := xs) e
  | .obj _ _ xs, e => belows_up h (xs := xs) e
  | .fn _ _ _ _ ds, e => belows_up h (xs := ds) e
  | .non, _ => rfl
  | .bl _, _ => rfl
  | .int _, _ => rfl
  | .str _, _ => rfl
  | .ty _, _ => rfl
  | .cls _, _ => rfl
  | .exc _, _ => rfl
  | .scr _, _ => rfl
theorem belows_up {n m : Nat} (h : n ≤ m) : ∀ {xs : List D}, belows n xs = true → belows m xs = true
  | [], _ => rfl
  | x :: xs, e => by
    have e' : (below n x && belows n xs) = true := e
    rw [Bool.and_eq_true] at e'
    show (below m x && belows m xs) = true
    rw [below_up h e'.1, belows_up h e'.2]
    rfl
end
theorem cbelow_up {n m : Nat} (h : n ≤ m) {c : Cell} (e : c.below n = true) : c.below m = true := by
  cases c with
  | dead => rfl
  | lst xs => exact belows_up h e
  | dct ks xs => exact belows_up h e
  | obj c ns xs => exact belows_up h e
  | tbl k => rfl
theorem sb_app {s : Sto} {c : Cell} (hs : Sb s) (hc : c.below (s.length + 1) = true) : Sb (s ++ [c]) := by
  show (s ++ [c]).all (Cell.below (s ++ [c]).length) = true
  rw [List.all_eq_true]
  intro x hx
  rw [List.length_append, List.length_singleton]
  rcases List.mem_append.mp hx with h | h
  · exact cbelow_up (Nat.le_succ _) (List.all_eq_true.mp hs x h)
  · rw [List.mem_singleton.mp h]; exact hc
theorem belows_strs {n : Nat} : ∀ ws : List (List Nat), belows n (ws.map D.str) = true
  | [] => rfl
  | w :: ws => by
    show (true && belows n (ws.map D.str)) = true
    rw [belows_strs ws]
    rfl
/-! ### stops and rules -/
theorem p_addstop {A R B : Ps} {s : Sto} (h : Nt A R B s) {z : List Nat} {a b : Int} (hz : NmOk z) (hf : z ∉ A.map (·.1)) (ha : 1 ≤ a ∧ a ≤ 6) (hb : 0 ≤ b ∧ b ≤ 30) (hl : A.length < 8) :
    f_Net_add_stop [.loc 1, .str z, .int a, .int b] s = .ok .non (s.set 2 (.dct (ky (A ++ [(z, .tup [.int a, .int b])])) (vl (A ++ [(z, .tup [.int a, .int b])])))) := by
  have e1 := p_fresh (n := 2) (P := A) (s := s) (at_str hz) h.a
  have iz : inB A (.str z) = false := decide_eq_false hf
  rw [nmD_of hz, iz] at e1
  simp only [Bool.true_eq_false, Bool.false_eq_true, if_false] at e1
  have am1 : amD 1 6 (.int a) = true := by
    show (decide (1 ≤ a) && decide (a ≤ 6)) = true
    rw [decide_eq_true ha.1, decide_eq_true ha.2]; rfl
  have am2 : amD 0 30 (.int b) = true := by
    show (decide (0 ≤ b) && decide (b ≤ 30)) = true
    rw [decide_eq_true hb.1, decide_eq_true hb.2]; rfl
  have e2 := p_need (d := .int a) (lo := 1) (hi := 6) (s := s) rfl
  rw [am1, if_pos rfl] at e2
  have e3 := p_need (d := .int b) (lo := 0) (hi := 30) (s := s) rfl
  rw [am2, if_pos rfl] at e3
  have e4 := p_room (P := A) (n := 2) (m := 8) (s := s) h.a (by omega)
  have ob := h.o
  have hA := h.a
  obtain ⟨e6, e7⟩ := set_new (d := .tup [.int a, .int b]) hf
  have hl2 : A.length < 1000 := by omega
  have l2 : 2 ≤ lim := by decide
  have key : g_Net_add_stop [some (.loc 1), some (.str z), some (.int a), some (.int b)] s = .nx [some (.loc 1), some (.str z), some (.int a), some (.int b)] (s.set 2 (.dct (ky (A ++ [(z, .tup [.int a, .int b])])) (vl (A ++ [(z, .tup [.int a, .int b])])))) := by
    unfold g_Net_add_stop
    refine seq_step (δ' := [some (.loc 1), some (.str z), some (.int a), some (.int b)]) (s' := s) (by simp [ob, e1]) ?_
    refine seq_step (δ' := [some (.loc 1), some (.str z), some (.int a), some (.int b)]) (s' := s) (by simp [e2]) ?_
    refine seq_step (δ' := [some (.loc 1), some (.str z), some (.int a), some (.int b)]) (s' := s) (by simp [e3]) ?_
    refine seq_step (δ' := [some (.loc 1), some (.str z), some (.int a), some (.int b)]) (s' := s) (by simp [ob, e4]) ?_
    simp [ob, hA, hl2, e6, e7, l2]
  show finO s.length (g_Net_add_stop [some (.loc 1), some (.str z), some (.int a), some (.int b)] s) = _
  rw [key]
  show cut s.length .non _ = _
  unfold Mp.cut
  rw [if_pos (by rw [List.length_set])]
theorem p_addrule {A R B : Ps} {s : Sto} (h : Nt A R B s) {z : List Nat} {d : D} (hz : NmOk z) (hf : z ∉ R.map (·.1)) (hd : ∀ s, bIsO parT parA csT [d, .cls 18] s = .ok (.bl true) s) (hl : R.length < 6) :
    f_Net_add_rule [.loc 1, .str z, d] s = .ok .non (s.set 4 (.dct (ky (R ++ [(z, d)])) (vl (R ++ [(z, d)])))) := by
  have e1 := p_fresh (n := 4) (P := R) (s := s) (at_str hz) h.r
  have iz : inB R (.str z) = false := decide_eq_false hf
  rw [nmD_of hz, iz] at e1
  simp only [Bool.true_eq_false, Bool.false_eq_true, if_false] at e1
  have e4 := p_room (P := R) (n := 4) (m := 6) (s := s) h.r (by omega)
  have ob := h.o
  have hR := h.r
  have hd := hd s
  obtain ⟨e6, e7⟩ := set_new (d := d) hf
  have hl2 : R.length < 1000 := by omega
  have key : g_Net_add_rule [some (.loc 1), some (.str z), some d] s = .nx [some (.loc 1), some (.str z), some d] (s.set 4 (.dct (ky (R ++ [(z, d)])) (vl (R ++ [(z, d)])))) := by
    unfold g_Net_add_rule
    refine seq_step (δ' := [some (.loc 1), some (.str z), some d]) (s' := s) (by simp [ob, e1]) ?_
    refine seq_step (δ' := [some (.loc 1), some (.str z), some d]) (s' := s) (by simp [hd]) ?_
    refine seq_step (δ' := [some (.loc 1), some (.str z), some d]) (s' := s) (by simp [ob, e4]) ?_
    simp [ob, hR, hl2, e6, e7]
  show finO s.length (g_Net_add_rule [some (.loc 1), some (.str z), some d] s) = _
  rw [key]
  show cut s.length .non _ = _
  unfold Mp.cut
  rw [if_pos (by rw [List.length_set])]
theorem iso_rule {s : Sto} : bIsO parT parA csT [.obj 18 [] [], .cls 18] s = .ok (.bl true) s := by rfl
theorem iso_week {n : List Nat} {v : List D} {s : Sto} : bIsO parT parA csT [.obj 19 n v, .cls 18] s = .ok (.bl true) s := by rfl
theorem p_week {i : Int} {s : Sto} (h : 0 ≤ i ∧ i ≤ 127) (hs : Sb s) : mkOF 19 f_Week___init__ [.int i] s = .ok (.obj 19 [0] [.int i]) s := by
  refine mkOF_ok ?_ hs rfl
  have hw : (s ++ [Cell.obj 19 [] []])[s.length]? = some (.obj 19 [] []) := by simp
  have e := p_among (d := .int i) (lo := 0) (hi := 127) (s := s ++ [.obj 19 [] []]) rfl
  have am : amD 0 127 (.int i) = true := by
    show (decide (0 ≤ i) && decide (i ≤ 127)) = true
    rw [decide_eq_true h.1, decide_eq_true h.2]; rfl
  rw [am] at e
  have e2 : f_need [.bl true] (s ++ [.obj 19 [] []]) = .ok .non (s ++ [.obj 19 [] []]) := by simp [f_need, mkF, g_need]
  have key : g_Week___init__ [some (.loc s.length), some (.int i)] (s ++ [.obj 19 [] []]) = .nx [some (.loc s.length), some (.int i)] (s ++ [.obj 19 [0] [.int i]]) := by
    unfold g_Week___init__
    refine seq_step (δ' := [some (.loc s.length), some (.int i)]) (s' := s ++ [.obj 19 [] []]) (by simp [e, e2]) ?_
    have m : (19 ∈ csT) := by decide
    simp [hw, m, set_end, putN, putD]
  show finO (s ++ [Cell.obj 19 [] []]).length (g_Week___init__ [some (.loc s.length), some (.int i)] (s ++ [.obj 19 [] []])) = _
  rw [key]
  show cut _ .non _ = _
  unfold Mp.cut
  rw [if_pos (by simp)]
/-! ### what it tells of trips -/
theorem p_trips {A R B : Ps} {s : Sto} (h : Nt A R B s) : f_Net_trips [.loc 1] s = .ok (.lst (ky B)) s := by
  have ob := h.o
  have hb : bListA [.loc 6] s = .ok (.lst (ky B)) s := by
    unfold bListA
    simp [dcOf, h.b]
  have key : g_Net_trips [some (.loc 1)] s = .rt (.lst (ky B)) s := by
    unfold g_Net_trips
    simp [ob, hb]
  show finO s.length (g_Net_trips [some (.loc 1)] s) = _
  rw [key]
  show cut _ _ _ = _
  unfold Mp.cut
  rw [if_pos rfl]
theorem p_rname {A R B : Ps} {s : Sto} (h : Nt A R B s) {z : List Nat} {r c : D} (hz : NmOk z) (nd : (B.map (·.1)).Nodup) (hm : (z, D.tup [r, c]) ∈ B) : f_Net_rule_name [.loc 1, .str z] s = .ok r s := by
  have ob := h.o
  have hb := h.b
  have lk := lk_yes nd hm
  have e1 := p_ntrip h hz (List.mem_map_of_mem hm)
  have i0 : oIx (.tup [r, c]) (.int 0) s = .ok r s := rfl
  have key : g_Net_rule_name [some (.loc 1), some (.str z)] s = .rt r s := by
    unfold g_Net_rule_name
    refine seq_step (δ' := [some (.loc 1), some (.str z)]) (s' := s) (by simp [dMeth_eq, ob, e1, List.lookup]) ?_
    generalize D.tup [r, c] = G at i0 lk
    have lk' : lkD (.str z) (ky B) (vl B) = some G := lk
    have dx : oDix (.loc 6) (.str z) s = .ok G s := by
      unfold oDix
      simp [dcOf, hb, keyD, lk']
    simp [ob, dx, i0]
  show finO s.length (g_Net_rule_name [some (.loc 1), some (.str z)] s) = _
  rw [key]
  show cut _ _ _ = _
  unfold Mp.cut
  rw [if_pos rfl]
theorem p_ncalls {A R B : Ps} {s : Sto} (h : Nt A R B s) {z : List Nat} {r : D} {xs : List D} (hz : NmOk z) (nd : (B.map (·.1)).Nodup) (hm : (z, D.tup [r, .tup xs]) ∈ B) : f_Net_calls [.loc 1, .str z] s = .ok (.loc s.length) (s ++ [.lst xs]) := by
  have ob := h.o
  have hb := h.b
  have lk := lk_yes nd hm
  have e1 := p_ntrip h hz (List.mem_map_of_mem hm)
  have i0 : oIx (.tup [r, .tup xs]) (.int 1) s = .ok (.tup xs) s := rfl
  have bl : bListC [.tup xs] s = .ok (.loc s.length) (s ++ [.lst xs]) := rfl
  have key : g_Net_calls [some (.loc 1), some (.str z)] s = .rt (.loc s.length) (s ++ [.lst xs]) := by
    unfold g_Net_calls
    refine seq_step (δ' := [some (.loc 1), some (.str z)]) (s' := s) (by simp [dMeth_eq, ob, e1, List.lookup]) ?_
    generalize D.tup xs = X at bl i0 lk
    generalize D.tup [r, X] = G at i0 lk
    have lk' : lkD (.str z) (ky B) (vl B) = some G := lk
    have dx : oDix (.loc 6) (.str z) s = .ok G s := by
      unfold oDix
      simp [dcOf, hb, keyD, lk']
    simp [ob, dx, i0, bl]
  show finO s.length (g_Net_calls [some (.loc 1), some (.str z)] s) = _
  rw [key]
  show cut _ _ _ = _
  unfold Mp.cut
  rw [if_neg (by simp), if_neg (by
    have : below s.length (.loc s.length) = false := decide_eq_false (by omega)
    rw [this]
    simp)]
theorem oNe_rloc {s : Sto} {n : Nat} {xs ys : List D} {b : Bool} (h : s[n]? = some (.lst ys)) (hx : datDs 63 xs = true) (hy : datDs 63 ys = true) : oEqG b (.lst xs) (.loc n) s = .ok (.bl (b != eqDs xs ys)) s := by
  have e : oEqG b (.lst xs) (.loc n) s = oEqG b (.lst xs) (.lst ys) s := by
    unfold oEqG
    have e1 : scD (.lst xs) (.loc n) = none := rfl
    have e2 : scD (.lst xs) (.lst ys) = none := rfl
    have e3 : toPc s (.loc n) = toPc s (.lst ys) := by unfold toPc; simp [h]
    rw [e1, e2, e3]
  rw [e, oEq_ll hx hy]
theorem eqDs_cD : ∀ cs : List Cl3, eqDs (cs.map cD) (cs.map cD) = true
  | [] => rfl
  | c :: cs => by
    rw [List.map_cons, eqDs_cc, eqDs_cD cs]
    unfold cD
    simp
theorem dat_cD {n : Nat} {c : Cl3} (h : NmOk c.1) : datD (n + 2) (cD c) = true := by
  have ok : okS c.1 = true := (at_str h).len.2
  unfold cD
  simp [ok]
theorem dats_cD {cs : List Cl3} (h : ∀ c ∈ cs, NmOk c.1) : datDs 63 (cs.map cD) = true := dats_of fun d hd => by
  obtain ⟨c, hc, rfl⟩ := List.mem_map.mp hd
  exact dat_cD (n := 61) (h c hc)
end Rb
namespace Rb
open PySem PySem.Spec L2 Mp
/-! ### one turn of the law -/
structure LS (A R B : Ps) (s : Sto) : Prop where
  nt : Nt A R B s
  t : s[7]? = some (.lst ((B.map (·.1)).map D.str))
  sb : Sb s
theorem LS.app {A R B : Ps} {s : Sto} {xs : List D} (h : LS A R B s) (hx : belows (s.length + 1) xs = true) : LS A R B (s ++ [.lst xs]) :=
  ⟨h.nt.app, by rw [List.getElem?_append_left ((List.getElem?_eq_some_iff.mp h.t).1)]; exact h.t, sb_app h.sb hx⟩
abbrev put6 (B : Ps) (s : Sto) : Sto := s.set 6 (.dct (ky B) (vl B))
abbrev put7 (B : Ps) (s : Sto) : Sto := s.set 7 (.lst ((B.map (·.1)).map D.str))
theorem LS.put {A R B : Ps} {s : Sto} (h : LS A R B s) {n r c : D} (hc : Cs c) (hd : dueT A R B n r c = none) : LS A R (addB B n r c) (put7 (addB B n r c) (put6 (addB B n r c) s)) := by
  have l7 := (List.getElem?_eq_some_iff.mp h.t).1
  refine ⟨(h.nt.put).far (by omega), ?_, sb_set (put_sb h.nt h.sb hc hd) (belows_strs _)⟩
  rw [List.getElem?_set_self (by rw [List.length_set]; exact l7)]
/-- the world of one law -/
structure Wd (A R : Ps) (names : List (List Nat)) : Prop where
  a : A.map (·.1) = names
  n : ∀ z ∈ names, NmOk z
  nd : names.Nodup
  l : 2 ≤ names.length ∧ names.length ≤ 8
  r : R.map (·.1) = [wDaily, wSome]
theorem Wd.due {A R B : Ps} {names : List (List Nat)} (w : Wd A R names) {z ru : List Nat} {cs : List Cl3} {m : Int} (hz : NmOk z) (hf : z ∉ B.map (·.1)) (hr : ru = wDaily ∨ ru = wSome) (hl : 2 ≤ cs.length ∧ cs.length ≤ 6) (hm : 0 ≤ m) (hR : Rise names none m cs) :
    dueT A R B (.str z) (.str ru) (.lst (cs.map cD)) = none := by
  unfold dueT
  have i0 : inB B (.str z) = false := decide_eq_false hf
  have rb : ruB (.str ru) = true := by
    show (decide (ru = wDaily) || decide (ru = wSome)) = true
    rcases hr with rfl | rfl <;> rfl
  rw [nmD_of hz, i0, ru_eq w.r, rb]
  simp only [Bool.true_eq_false, Bool.false_eq_true, if_false]
  show (if shp (cs.map cD) = false then some 11 else dueL A none (cs.map cD)) = none
  rw [shp_cD hl]
  simp only [Bool.true_eq_false, if_false]
  exact rise_due (names := names) (fun z hz => ⟨w.n z hz, by rw [w.a]; exact hz⟩) cs none m none (fun p e => nomatch e) hm hR
theorem cs_cD {cs : List Cl3} (h : ∀ c ∈ cs, NmOk c.1) : Cs (.lst (cs.map cD)) := ⟨rfl, fun xs e x hx => by
  cases e
  obtain ⟨c, hc, rfl⟩ := List.mem_map.mp hx
  exact at_cD (h c hc)⟩
theorem rise_ok {names : List (List Nat)} {cs : List Cl3} {m : Int} (h : Rise names none m cs) (hn : ∀ z ∈ names, NmOk z) : ∀ c ∈ cs, NmOk c.1 := fun c hc => hn _ (h.mem c hc)
def tn (k : Nat) : List Nat := [116, 114, 105, 112, 97 + k]
theorem tn_ok {k : Nat} (h : k < 5) : NmOk (tn k) := by
  refine ⟨by simp [tn], by simp [tn], fun c hc => ?_⟩
  simp only [tn, List.mem_cons, List.not_mem_nil, or_false] at hc
  omega
abbrev wThere : List Nat := [116, 104, 101, 114, 101]
def tns (k : Nat) : List (List Nat) := wThere :: (List.range k).map tn
theorem tns_succ {k : Nat} : tns (k + 1) = tns k ++ [tn k] := by
  unfold tns
  rw [List.range_succ, List.map_append]
  rfl
theorem tn_fresh {k : Nat} : tn k ∉ tns k := by
  unfold tns
  rw [List.mem_cons, not_or]
  refine ⟨fun e => by simp [tn] at e, fun h => ?_⟩
  obtain ⟨i, hi, e⟩ := List.mem_map.mp h
  have := List.mem_range.mp hi
  simp [tn] at e
  omega
theorem tns_ok {k : Nat} (h : k ≤ 5) : ∀ z ∈ tns k, NmOk z := by
  intro z hz
  unfold tns at hz
  rcases List.mem_cons.mp hz with rfl | hz
  · exact nmB_iff.mp (by rfl)
  · obtain ⟨i, hi, rfl⟩ := List.mem_map.mp hz
    have := List.mem_range.mp hi
    exact tn_ok (by omega)
theorem tns_nd : ∀ {k : Nat}, (tns k).Nodup
  | 0 => by unfold tns; simp
  | k + 1 => by
    rw [tns_succ, List.nodup_append]
    refine ⟨tns_nd, by simp, fun a ha b hb e => ?_⟩
    rw [List.mem_singleton] at hb
    exact tn_fresh (by rw [← hb, ← e]; exact ha)
theorem tns_len {k : Nat} : (tns k).length = k + 1 := by simp [tns]
theorem z_of {k : Nat} {n : D} {z : List Nat} (h : n = .str (tn k) ∨ n ∈ odd8) (e : n = .str z) (hz : NmOk z) (hf : z ∉ tns k) : z = tn k := by
  rcases h with h | h
  · rw [h] at e
    cases e
    rfl
  · rw [e] at h
    have nb := nmD_of hz
    unfold odd8 at h
    simp only [List.mem_cons, List.not_mem_nil, or_false, D.str.injEq, reduceCtorEq, false_or] at h
    rcases h with rfl | rfl | rfl | rfl | rfl
    · cases nb
    · cases nb
    · cases nb
    · exact absurd List.mem_cons_self hf
    · cases nb
/-! ### the trip given -/
section
variable {o0 o1 o2 o3 o5 o6 o8 o9 o10 o12 o13 o14 : Option D} {s : Sto} {nm : List Nat} {k : Nat} {cell : Int}
theorem sp_loop (hk : k < 5) : ∀ (js : List Nat) (L : Nat) (n r c : D) (o12 : Option D), (∀ j ∈ js, j < 3) → (js.length = 0 ∧ L ≤ 302) ∨ (js.length = 1 ∧ L ≤ 43) ∨ (js.length = 2 ∧ L ≤ 6) → GOk nm L n r c →
    ∃ n' r' c' o12', GOk nm 302 n' r' c' ∧ forL (tgN 12) g_law_b2 (js.map fun (j : Nat) => D.int (j : Int)) [o0, o1, o2, o3, some (.int (k : Int)), o5, o6, some (.int cell), o8, o9, o10, some (.tup [n, r, c]), o12, o13, o14] s =
      .nx [o0, o1, o2, o3, some (.int (k : Int)), o5, o6, some (.int cell), o8, o9, o10, some (.tup [n', r', c']), o12', o13, o14] s
  | [], L, n, r, c, o12, _, hl, g => ⟨n, r, c, o12, g.mono (by simp at hl; omega), rfl⟩
  | j :: js, L, n, r, c, o12, hj, hl, g => by
    have h0 := hj j List.mem_cons_self
    rw [List.length_cons] at hl
    have cm : cMul 7 (k : Int) = true := cMul_l (by omega)
    have e1 := p_mixed (c := cell) (k := 20 + 7 * (k : Int) + (j : Int)) (s := s) (by omega)
    obtain ⟨n1, r1, c1, e2, g1⟩ := p_spoilt (s := s) (x := mx cell (20 + 7 * (k : Int) + (j : Int))) g (by omega) mx_rng.1
    obtain ⟨n', r', c', o12', g2, e3⟩ := sp_loop hk js (7 * L + 1) n1 r1 c1 (some (.int (j : Int))) (fun i hi => hj i (List.mem_cons_of_mem _ hi)) (by omega) g1
    refine ⟨n', r', c', o12', g2, ?_⟩
    rw [List.map_cons, forL_next (δ1 := [o0, o1, o2, o3, some (.int (k : Int)), o5, o6, some (.int cell), o8, o9, o10, some (.tup [n, r, c]), some (.int (j : Int)), o13, o14]) (δ2 := [o0, o1, o2, o3, some (.int (k : Int)), o5, o6, some (.int cell), o8, o9, o10, some (.tup [n1, r1, c1]), some (.int (j : Int)), o13, o14]) (s2 := s) rfl (by
      unfold g_law_b2
      generalize D.tup [n, r, c] = G at e2
      generalize D.tup [n1, r1, c1] = G1 at e2
      simp [cm, e1, e2])]
    exact e3
end
theorem td_ne {s : Sto} : oNe (.tup [.str wTold, .non]) (.tup [.str wTold, .non]) s = .ok (.bl false) s := by
  show oEqG true (.tup [.str wTold, .non]) (.tup [.str wTold, .non]) s = _
  rw [oEq_tt (by rfl) (by rfl)]
  rfl
theorem wd_ne {s : Sto} {z : List Nat} : oNe (.str z) (.str z) s = .ok (.bl false) s := by
  show oEqG true (.str z) (.str z) s = _
  rw [oEq_str]
  simp
abbrev okAll (s : List (List Nat)) : Prop := ∀ z ∈ s, NmOk z
theorem dats_nm {n : Nat} {zs : List (List Nat)} (h : okAll zs) : datDs n (zs.map D.str) = true := datDs_strs fun z hz => (at_str (h z hz)).len.2
theorem ky_map {B : Ps} : ky B = (B.map (·.1)).map D.str := by
  rw [List.map_map]
  rfl
theorem trips_ne {A R B : Ps} {s : Sto} (h : LS A R B s) (hz : okAll (B.map (·.1))) : oNe (.lst (ky B)) (.loc 7) s = .ok (.bl false) s := by
  show oEqG true (.lst (ky B)) (.loc 7) s = _
  rw [ky_map, oNe_rloc h.t (dats_nm hz) (dats_nm hz), eqDs_self]
  rfl
/-! ### the end of a turn: a trip by that name is there -/
theorem end_step {A R B : Ps} {s : Sto} {names : List (List Nat)} (w : Wd A R names) (h : LS A R B s) (hB : okAll (B.map (·.1))) {nm ru : List Nat} {cs : List Cl3} (hz : NmOk nm) (hm : nm ∈ B.map (·.1)) (hl : B.length < 10) (hr : Rt (.str ru)) (hc : ∀ c ∈ cs, NmOk c.1) (hcl : cs.length ≤ 6) {δ : Mp.Env} {G : D} (d3 : δ[3]? = some (some (.loc 1))) (d6 : δ[6]? = some (some (.loc 7))) (d9 : δ[9]? = some (some (.str nm))) (d10 : δ[10]? = some (some G))
    (g1 : ∀ s, oIx G (.int 1) s = .ok (.str ru) s) (g2 : ∀ s, oIx G (.int 2) s = .ok (.lst (cs.map cD)) s) :
    (sIf (tOrD (tst (dOp oNe (dCall f__law_tried (aCons (dVar 3) (aCons (dTup (aCons (dVar 9) (aCons (dOp oIx (dVar 10) (dC (.int 1))) (aCons (dOp oIx (dVar 10) (dC (.int 2))) aNil)))) aNil))) (dC (.str [116, 119, 105, 99, 101])))) (tst (dOp oNe (dMeth 6 [(20, f_Net_trips)] (dVar 3) aNil) (dVar 6)))) (sRet (dC (.bl false))) sPass) δ s = .nx δ s := by
  have du : dueT A R B (.str nm) (.str ru) (.lst (cs.map cD)) = some 5 := by
    unfold dueT
    have i0 : inB B (.str nm) = true := decide_eq_true hm
    rw [nmD_of hz, i0]
    simp
  have tr := p_tried (n := .str nm) (r := .str ru) (c := .lst (cs.map cD)) h.nt h.sb (at_str hz) hr (cs_cD hc) (fun _ => hl) (fun xs e => by
    cases e
    rw [List.length_map]
    omega)
  rw [du] at tr
  have tr' : f__law_tried [.loc 1, .tup [.str nm, .str ru, .lst (cs.map cD)]] s = .ok (.str [116, 119, 105, 99, 101]) s := tr
  have ts := p_trips h.nt
  have ne1 := wd_ne (s := s) (z := [116, 119, 105, 99, 101])
  have ne2 := trips_ne h hB
  have ob := h.nt.o
  have g1 := g1 s
  have g2 := g2 s
  have l3 : ([D.str nm, .str ru, .lst (cs.map cD)] : List D).length ≤ lim := by rw [lim_eq]; simp
  have me : dMeth 6 [(20, f_Net_trips)] (dVar 3) aNil δ s = .ok (.lst (ky B)) s := by
    simp [dMeth_eq, d3, ob, ts, List.lookup]
  generalize D.lst (cs.map cD) = C at *
  have bt : dTup (aCons (dVar 9) (aCons (dOp oIx (dVar 10) (dC (.int 1))) (aCons (dOp oIx (dVar 10) (dC (.int 2))) aNil))) δ s = .ok (.tup [.str nm, .str ru, C]) s := by
    simp [d9, d10, g1, g2, lim_eq]
  generalize D.tup [.str nm, .str ru, C] = GG at *
  rw [sIf_eq]
  have tt : (tOrD (tst (dOp oNe (dCall f__law_tried (aCons (dVar 3) (aCons (dTup (aCons (dVar 9) (aCons (dOp oIx (dVar 10) (dC (.int 1))) (aCons (dOp oIx (dVar 10) (dC (.int 2))) aNil)))) aNil))) (dC (.str [116, 119, 105, 99, 101])))) (tst (dOp oNe (dMeth 6 [(20, f_Net_trips)] (dVar 3) aNil) (dVar 6)))) δ s = .ok false s := by
    simp only [tOr_eq, tst_eq, dOp_eq, dCall_eq, aCons_eq, dVar_eq, d3, d6, bind_ok, bt, aNil_eq, tr', dC_eq, ne1, me, ne2, Bool.false_eq_true, if_false]
  rw [tt]
  rfl
end Rb
namespace Rb
open PySem PySem.Spec L2 Mp
theorem abc_ix : ∀ {k : Nat} {s : Sto}, k < 5 → oIx (.str [97, 98, 99, 100, 101]) (.int (k : Int)) s = .ok (.str [97 + k]) s
  | 0, s, _ => by rfl
  | 1, s, _ => by rfl
  | 2, s, _ => by rfl
  | 3, s, _ => by rfl
  | 4, s, _ => by rfl
  | k + 5, s, h => absurd h (by omega)
theorem ints_nat {T : Nat} : intsD 0 T = (List.range T).map fun (j : Nat) => D.int (j : Int) := by simp [intsD]
section
variable {A R B : Ps} {names : List (List Nat)} {s : Sto} {k : Nat} {cell : Int} {o0 o1 o5 o8 o9 o10 o11 o12 o13 o14 : Option D}
/-- the trip is not in yet: it is put in -/
theorem turn_in (w : Wd A R names) (h : LS A R B s) (hB : B.map (·.1) = tns k) (hk : k < 5) {ST : D} {ru : List Nat} {cs : List Cl3} {m : Int} (hr : ru = wDaily ∨ ru = wSome) (hl : 2 ≤ cs.length ∧ cs.length ≤ 6) (hm : 0 ≤ m) (hR : Rise names none m cs) {G0 : D} (eG : G0 = .tup [.str (tn k), .str ru, .lst (cs.map cD)]) :
    ∃ B' s' p14, LS A R B' s' ∧ B'.map (·.1) = tns (k + 1) ∧ (sSeq (sIf (tst (dOp oNe (dCall f__law_tried (aCons (dVar 3) (aCons (dVar 10) aNil))) (dTup (aCons (dC (.str [116, 111, 108, 100])) (aCons (dC .non) aNil))))) (sRet (dC (.bl false))) sPass)
    (sSeq (sDrop (dMt "list" mAppend (dVar 6) (aCons (dVar 9) aNil)))
    (sSeq (sSet 14 (dMeth 6 [(20, f_Net_calls)] (dVar 3) (aCons (dVar 9) aNil)))
    (sSeq (sIf (tOrD (tNotD (tst (dBi (bIsO parT parA csT) (aCons (dVar 14) (aCons (dC (.ty "list")) aNil))))) (tOrD (tst (dOp oNe (dVar 14) (dOp oIx (dVar 10) (dC (.int 2))))) (tst (dOp oNe (dMeth 6 [(20, f_Net_rule_name)] (dVar 3) (aCons (dVar 9) aNil)) (dOp oIx (dVar 10) (dC (.int 1))))))) (sRet (dC (.bl false))) sPass)
    (sDrop (dMt "list" mClear (dVar 14) aNil)))))) [o0, o1, some ST, some (.loc 1), some (.int (k : Int)), o5, some (.loc 7), some (.int cell), o8, some (.str (tn k)), some G0, o11, o12, o13, o14] s = .nx [o0, o1, some ST, some (.loc 1), some (.int (k : Int)), o5, some (.loc 7), some (.int cell), o8, some (.str (tn k)), some G0, o11, o12, o13, p14] s' := by
  have kl : B.length < 10 := by
    have : (B.map (·.1)).length = k + 1 := by rw [hB, tns_len]
    rw [List.length_map] at this
    omega
  have hf : tn k ∉ B.map (·.1) := by rw [hB]; exact tn_fresh
  have rt : Rt (.str ru) := .inl ⟨ru, rfl, by rcases hr with rfl | rfl <;> decide, by rcases hr with rfl | rfl <;> rfl⟩
  have okc := rise_ok hR w.n
  have csC := cs_cD okc
  have du := w.due (B := B) (tn_ok hk) hf hr hl hm hR
  have tr := p_tried (n := .str (tn k)) (r := .str ru) (c := .lst (cs.map cD)) h.nt h.sb (at_str (tn_ok hk)) rt csC (fun _ => kl) (fun xs e => by
    cases e
    rw [List.length_map]
    omega)
  rw [du] at tr
  have tr' : f__law_tried [.loc 1, .tup [.str (tn k), .str ru, .lst (cs.map cD)]] s = .ok (.tup [.str wTold, .non]) (put6 (addB B (.str (tn k)) (.str ru) (.lst (cs.map cD))) s) := tr
  have P := h.put csC du
  have mem : (tn k, D.tup [.str ru, .tup (cs.map cD)]) ∈ addB B (.str (tn k)) (.str ru) (.lst (cs.map cD)) := by
    show _ ∈ B ++ [(tn k, D.tup [.str ru, .tup (cs.map cD)])]
    simp
  have hB1 : (addB B (.str (tn k)) (.str ru) (.lst (cs.map cD))).map (·.1) = tns (k + 1) := by
    show (B ++ [(tn k, D.tup [.str ru, .tup (cs.map cD)])]).map (·.1) = _
    rw [List.map_append, hB, tns_succ]
    rfl
  generalize addB B (.str (tn k)) (.str ru) (.lst (cs.map cD)) = B1 at *
  have l7 := (List.getElem?_eq_some_iff.mp h.t).1
  have t6 : (put6 B1 s)[7]? = some (.lst ((B.map (·.1)).map D.str)) := by rw [List.getElem?_set_ne (by omega)]; exact h.t
  have ap : (put6 B1 s).set 7 (.lst ((B.map (·.1)).map D.str ++ [.str (tn k)])) = put7 B1 (put6 B1 s) := by
    show _ = (put6 B1 s).set 7 (.lst ((B1.map (·.1)).map D.str))
    rw [hB1, hB, tns_succ, List.map_append]
    rfl
  have nd : (B1.map (·.1)).Nodup := by rw [hB1]; exact tns_nd
  have tl : ((B.map (·.1)).map D.str).length < 1000000 := by
    rw [List.length_map, hB, tns_len]
    omega
  have cl := p_ncalls P.nt (tn_ok hk) nd mem
  have P2 : LS A R B1 (put7 B1 (put6 B1 s) ++ [.lst (cs.map cD)]) := P.app (below_cD cs)
  have rn := p_rname P2.nt (tn_ok hk) nd mem
  have P3 : LS A R B1 (put7 B1 (put6 B1 s) ++ [.lst []]) := P.app rfl
  refine ⟨B1, _, some (.loc (put7 B1 (put6 B1 s)).length), P3, hB1, ?_⟩
  have ob2 := P.nt.o
  have ob3 := P2.nt.o
  have g2 : ∀ s, oIx G0 (.int 2) s = .ok (.lst (cs.map cD)) s := fun s => by rw [eG]; rfl
  have g1 : ∀ s, oIx G0 (.int 1) s = .ok (.str ru) s := fun s => by rw [eG]; rfl
  rw [← eG] at tr'
  have dc := dats_cD okc
  generalize put7 B1 (put6 B1 s) = s2 at *
  have hm : (s2 ++ [Cell.lst (cs.map cD)])[s2.length]? = some (.lst (cs.map cD)) := by simp
  have ty : bIsO parT parA csT [.loc s2.length, .ty "list"] (s2 ++ [.lst (cs.map cD)]) = .ok (.bl true) (s2 ++ [.lst (cs.map cD)]) := iso_ty (t := "list") (by simp [tyOf, hm]) kit_ll
  have ne1 : oNe (.loc s2.length) (.lst (cs.map cD)) (s2 ++ [.lst (cs.map cD)]) = .ok (.bl false) (s2 ++ [.lst (cs.map cD)]) := by
    show oEqG true (.loc s2.length) (.lst (cs.map cD)) (s2 ++ [.lst (cs.map cD)]) = _
    rw [oEq_loc hm dc (y := .lst (cs.map cD)) dc, eqD_ll, eqDs_cD]
    rfl
  have ne2 := wd_ne (s := s2 ++ [.lst (cs.map cD)]) (z := ru)
  have set0 : (s2 ++ [Cell.lst (cs.map cD)]).set s2.length (.lst []) = s2 ++ [.lst []] := set_end
  generalize cs.map cD = CS at *
  generalize put6 B1 s = s1 at *
  generalize (B.map (·.1)).map D.str = W at *
  have td := td_ne (s := s1)
  refine seq_step (δ' := [o0, o1, some ST, some (.loc 1), some (.int (k : Int)), o5, some (.loc 7), some (.int cell), o8, some (.str (tn k)), some G0, o11, o12, o13, o14]) (s' := s1) ?_ ?_
  · have tq : (tst (dOp oNe (dCall f__law_tried (aCons (dVar 3) (aCons (dVar 10) aNil))) (dTup (aCons (dC (.str [116, 111, 108, 100])) (aCons (dC .non) aNil))))) [o0, o1, some ST, some (.loc 1), some (.int (k : Int)), o5, some (.loc 7), some (.int cell), o8, some (.str (tn k)), some G0, o11, o12, o13, o14] s = .ok false s1 := by
      simp [tr', td, lim_eq]
    rw [sIf_eq, tq]
    rfl
  refine seq_step (δ' := [o0, o1, some ST, some (.loc 1), some (.int (k : Int)), o5, some (.loc 7), some (.int cell), o8, some (.str (tn k)), some G0, o11, o12, o13, o14]) (s' := s2) (by simp [t6, tl, ap, lim_eq]) ?_
  refine seq_step (δ' := [o0, o1, some ST, some (.loc 1), some (.int (k : Int)), o5, some (.loc 7), some (.int cell), o8, some (.str (tn k)), some G0, o11, o12, o13, some (.loc s2.length)]) (s' := s2 ++ [.lst CS]) (by simp [dMeth_eq, List.lookup, ob2, cl]) ?_
  refine seq_step (δ' := [o0, o1, some ST, some (.loc 1), some (.int (k : Int)), o5, some (.loc 7), some (.int cell), o8, some (.str (tn k)), some G0, o11, o12, o13, some (.loc s2.length)]) (s' := s2 ++ [.lst CS]) ?_ ?_
  · have r1 : dMeth 6 [(20, f_Net_rule_name)] (dVar 3) (aCons (dVar 9) aNil) [o0, o1, some ST, some (.loc 1), some (.int (k : Int)), o5, some (.loc 7), some (.int cell), o8, some (.str (tn k)), some G0, o11, o12, o13, some (.loc s2.length)] (s2 ++ [.lst CS]) = .ok (.str ru) (s2 ++ [.lst CS]) := by simp [dMeth_eq, List.lookup, ob3, rn]
    have tq : (tOrD (tNotD (tst (dBi (bIsO parT parA csT) (aCons (dVar 14) (aCons (dC (.ty "list")) aNil))))) (tOrD (tst (dOp oNe (dVar 14) (dOp oIx (dVar 10) (dC (.int 2))))) (tst (dOp oNe (dMeth 6 [(20, f_Net_rule_name)] (dVar 3) (aCons (dVar 9) aNil)) (dOp oIx (dVar 10) (dC (.int 1))))))) [o0, o1, some ST, some (.loc 1), some (.int (k : Int)), o5, some (.loc 7), some (.int cell), o8, some (.str (tn k)), some G0, o11, o12, o13, some (.loc s2.length)] (s2 ++ [.lst CS]) = .ok false (s2 ++ [.lst CS]) := by
      simp only [tOr_eq, tNot_eq, tst_eq, dBi_eq, dOp_eq, aCons_eq, aNil_eq, dVar_eq, dC_eq, List.getElem?_cons_succ, List.getElem?_cons_zero, bind_ok, ty, Bool.not_true, Bool.false_eq_true, if_false, g2, ne1, r1, g1, ne2]
    rw [sIf_eq, tq]
    rfl
  simp [hm, set0]
end
end Rb
namespace Rb
open PySem PySem.Spec L2 Mp
section
variable {A R B : Ps} {names : List (List Nat)} {s : Sto} {k : Nat} {cell : Int} {o0 o1 o5 o8 o9 o10 o11 o12 o13 o14 : Option D}
section
variable {F : List D → Sto → Res D} {y : Int} {ST C X G G0 : D} {z ru : List Nat} {s1 : Sto} {p12 p14 : Option D}
theorem g8 (e : F [.int cell, .int (1 + (k : Int))] s = .ok (.int y) s) : (sSet 8 (dCall F (aCons (dVar 7) (aCons (dOp oAdd (dC (.int 1)) (dVar 4)) aNil)))) [o0, o1, some ST, some (.loc 1), some (.int (k : Int)), o5, some (.loc 7), some (.int cell), o8, o9, o10, o11, o12, o13, o14] s = .nx [o0, o1, some ST, some (.loc 1), some (.int (k : Int)), o5, some (.loc 7), some (.int cell), some (.int y), o9, o10, o11, o12, o13, o14] s := by simp [e]
theorem g10 {M : Int} (er : atI [D.str [100, 97, 105, 108, 121], .str [115, 111, 109, 101]] (y % 2) = some (.str ru)) (hM : 2 + y / 2 % 5 = M) (ec : F [.int y, ST, .int M] s = .ok C s) : (sSet 10 (dTup (aCons (dVar 9) (aCons (dOp oIx (dLst (aCons (dC (.str [100, 97, 105, 108, 121])) (aCons (dC (.str [115, 111, 109, 101])) aNil))) (dOp oMod (dVar 8) (dC (.int 2)))) (aCons (dCall F (aCons (dVar 8) (aCons (dVar 2) (aCons (dOp oAdd (dC (.int 2)) (dOp oMod (dOp oDiv (dVar 8) (dC (.int 2))) (dC (.int 5)))) aNil)))) aNil))))) [o0, o1, some ST, some (.loc 1), some (.int (k : Int)), o5, some (.loc 7), some (.int cell), some (.int y), some (.str z), o10, o11, o12, o13, o14] s = .nx [o0, o1, some ST, some (.loc 1), some (.int (k : Int)), o5, some (.loc 7), some (.int cell), some (.int y), some (.str z), some (.tup [.str z, .str ru, C]), o11, o12, o13, o14] s := by
  have l3 : 3 ≤ lim := by decide
  have l2 : 2 ≤ lim := by decide
  simp [er, l2, hM, ec, l3]
theorem g13 {n' r' c' : D} (q0 : ∀ s, oIx G (.int 0) s = .ok n' s) (q1 : ∀ s, oIx G (.int 1) s = .ok r' s) (q2 : ∀ s, oIx G (.int 2) s = .ok c' s) (pd : F [ST, .loc 7, n', r', c'] s = .ok X s) : (sSet 13 (dCall F (aCons (dVar 2) (aCons (dVar 6) (aCons (dOp oIx (dVar 11) (dC (.int 0))) (aCons (dOp oIx (dVar 11) (dC (.int 1))) (aCons (dOp oIx (dVar 11) (dC (.int 2))) aNil))))))) [o0, o1, some ST, some (.loc 1), some (.int (k : Int)), o5, some (.loc 7), some (.int cell), some (.int y), some (.str (tn k)), some G0, some G, p12, o13, o14] s = .nx [o0, o1, some ST, some (.loc 1), some (.int (k : Int)), o5, some (.loc 7), some (.int cell), some (.int y), some (.str (tn k)), some G0, some G, p12, some X, o14] s := by simp [q0, q1, q2, pd]
theorem g14a (tr : F [.loc 1, G] s = .ok (.tup [.str wTold, .non]) s1) (td : oNe (.tup [.str wTold, .non]) (.tup [.str wTold, .non]) s1 = .ok (.bl false) s1) : (tst (dOp oNe (dCall F (aCons (dVar 3) (aCons (dVar 11) aNil))) (dIfE (tst (dOp (oIs false) (dVar 13) (dC .non))) (dTup (aCons (dC (.str [116, 111, 108, 100])) (aCons (dC .non) aNil))) (dVar 13)))) [o0, o1, some ST, some (.loc 1), some (.int (k : Int)), o5, some (.loc 7), some (.int cell), some (.int y), some (.str (tn k)), some G0, some G, p12, some .non, o14] s = .ok false s1 := by simp [tr, td, lim_eq]
theorem g14b (tr : F [.loc 1, G] s = .ok (.str z) s) (hX : X = .str z) (wn : oNe (.str z) (.str z) s = .ok (.bl false) s) : (tst (dOp oNe (dCall F (aCons (dVar 3) (aCons (dVar 11) aNil))) (dIfE (tst (dOp (oIs false) (dVar 13) (dC .non))) (dTup (aCons (dC (.str [116, 111, 108, 100])) (aCons (dC .non) aNil))) (dVar 13)))) [o0, o1, some ST, some (.loc 1), some (.int (k : Int)), o5, some (.loc 7), some (.int cell), some (.int y), some (.str (tn k)), some G0, some G, p12, some X, o14] s = .ok false s := by
  subst hX
  simp [tr, wn]
theorem g15b (hX : X = .str z) {K : D} (me : dMeth 6 [(20, f_Net_trips)] (dVar 3) aNil [o0, o1, some ST, some (.loc 1), some (.int (k : Int)), o5, some (.loc 7), some (.int cell), some (.int y), some (.str (tn k)), some G0, some G, p12, some X, o14] s = .ok K s) (ne : oNe K (.loc 7) s = .ok (.bl false) s) : (sIf (tst (dOp (oIs false) (dVar 13) (dC .non))) (sDrop (dMt "list" mAppend (dVar 6) (aCons (dOp oIx (dVar 11) (dC (.int 0))) aNil))) (sIf (tst (dOp oNe (dMeth 6 [(20, f_Net_trips)] (dVar 3) aNil) (dVar 6))) (sRet (dC (.bl false))) sPass)) [o0, o1, some ST, some (.loc 1), some (.int (k : Int)), o5, some (.loc 7), some (.int cell), some (.int y), some (.str (tn k)), some G0, some G, p12, some X, o14] s = .nx [o0, o1, some ST, some (.loc 1), some (.int (k : Int)), o5, some (.loc 7), some (.int cell), some (.int y), some (.str (tn k)), some G0, some G, p12, some X, o14] s := by
  subst hX
  simp [me, ne]
end
theorem turn (w : Wd A R names) (h : LS A R B s) (hB : B.map (·.1) = tns k) (hk : k < 5) {ST : D} (eS : ST = .lst (names.map D.str)) :
    ∃ B' s' p8 p9 p10 p11 p12 p13 p14, LS A R B' s' ∧ B'.map (·.1) = tns (k + 1) ∧ g_law_b3 [o0, o1, some ST, some (.loc 1), some (.int (k : Int)), o5, some (.loc 7), some (.int cell), o8, o9, o10, o11, o12, o13, o14] s = .nx [o0, o1, some ST, some (.loc 1), some (.int (k : Int)), o5, some (.loc 7), some (.int cell), p8, p9, p10, p11, p12, p13, p14] s' := by
  obtain ⟨y0, y1⟩ := mx_rng (c := cell) (k := 1 + (k : Int))
  have e1 := p_mixed (c := cell) (k := 1 + (k : Int)) (s := s) (by omega)
  generalize mx cell (1 + (k : Int)) = y at *
  obtain ⟨rd, er, ru, erd, hr⟩ := atI_ex (xs := [D.str [100, 97, 105, 108, 121], .str [115, 111, 109, 101]]) (i := y % 2) (Q := fun d => ∃ ru, d = D.str ru ∧ (ru = wDaily ∨ ru = wSome)) (by omega) (by simp; omega) (by
    intro d hd
    simp only [List.mem_cons, List.not_mem_nil, or_false] at hd
    rcases hd with rfl | rfl
    · exact ⟨_, rfl, .inl rfl⟩
    · exact ⟨_, rfl, .inr rfl⟩)
  subst erd
  obtain ⟨M, hM, hM1⟩ : ∃ M : Nat, 2 + y / 2 % 5 = (M : Int) ∧ (2 ≤ M ∧ M ≤ 6) := ⟨(2 + y / 2 % 5).toNat, by omega, by omega⟩
  obtain ⟨cs, hcl, ⟨m, hm, hR⟩, ec⟩ := p_calls (x := y) (M := M) y0 w.nd w.l hM1
  have ec := ec s h.sb
  rw [← eS] at ec
  have hl : 2 ≤ cs.length ∧ cs.length ≤ 6 := by omega
  have okc := rise_ok hR w.n
  have rt : Rt (.str ru) := .inl ⟨ru, rfl, by rcases hr with rfl | rfl <;> decide, by rcases hr with rfl | rfl <;> rfl⟩
  have csC := cs_cD okc
  have ad : oAdd (.str [116, 114, 105, 112]) (.str [97 + k]) s = .ok (.str (tn k)) s := by
    rw [oAdd_str, if_pos (by rw [lim_eq]; simp)]
    rfl
  have ix := abc_ix (s := s) hk
  have kl : B.length < 10 := by
    have : (B.map (·.1)).length = k + 1 := by rw [hB, tns_len]
    rw [List.length_map] at this
    omega
  obtain ⟨T, hT, hT2⟩ : ∃ T : Nat, y / 10 % 3 = (T : Int) ∧ T ≤ 2 := ⟨(y / 10 % 3).toNat, by omega, by omega⟩
  have g0 : GOk (tn k) 6 (.str (tn k)) (.str ru) (.lst (cs.map cD)) := ⟨.inl rfl, rt, csC.1, fun xs e => by
    cases e
    refine ⟨by rw [List.length_map]; exact hl.2, fun x hx => ?_⟩
    obtain ⟨c, hc, rfl⟩ := List.mem_map.mp hx
    exact el_cD (okc c hc)⟩
  obtain ⟨n', r', c', p12, g', lp⟩ := sp_loop (o0 := o0) (o1 := o1) (o2 := some ST) (o3 := some (.loc 1)) (o5 := o5) (o6 := some (.loc 7)) (o8 := some (.int y)) (o9 := some (.str (tn k))) (o10 := some (.tup [.str (tn k), .str ru, .lst (cs.map cD)])) (o13 := o13) (o14 := o14) (s := s) (cell := cell) hk (List.range T) 6 (.str (tn k)) (.str ru) (.lst (cs.map cD)) o12 (fun j hj => by
    have := List.mem_range.mp hj
    omega) (by rw [List.length_range]; omega) g0
  rw [← ints_nat] at lp
  have an := g'.nat (tn_ok hk)
  have pd := p_due (A := A) (R := R) (B := B) (s := s) (q := 7) (n := n') (r := r') (c := c') (fun z hz => (at_str (w.n z (by rw [← w.a]; exact hz))).len.2) w.r h.t an g'.r g'.cs
  rw [w.a, ← eS] at pd
  have tr := p_tried h.nt h.sb an g'.r g'.cs (fun _ => kl) (fun xs e => by have := (g'.e xs e).1; omega)
  generalize hG0 : D.tup [.str (tn k), .str ru, .lst (cs.map cD)] = G0 at lp
  have q0 : ∀ s, oIx (.tup [n', r', c']) (.int 0) s = .ok n' s := fun s => rfl
  have q1 : ∀ s, oIx (.tup [n', r', c']) (.int 1) s = .ok r' s := fun s => rfl
  have q2 : ∀ s, oIx (.tup [n', r', c']) (.int 2) s = .ok c' s := fun s => rfl
  generalize hG : D.tup [n', r', c'] = G at lp tr q0 q1 q2
  have gg1 : ∀ s, oIx G0 (.int 1) s = .ok (.str ru) s := fun s => by rw [← hG0]; rfl
  have gg2 : ∀ s, oIx G0 (.int 2) s = .ok (.lst (cs.map cD)) s := fun s => by rw [← hG0]; rfl
  have l3 : 3 ≤ lim := by decide
  have l2 : 2 ≤ lim := by decide
  have S8 : (sSet 8 (dCall f__law_mixed (aCons (dVar 7) (aCons (dOp oAdd (dC (.int 1)) (dVar 4)) aNil)))) [o0, o1, some ST, some (.loc 1), some (.int (k : Int)), o5, some (.loc 7), some (.int cell), o8, o9, o10, o11, o12, o13, o14] s = .nx [o0, o1, some ST, some (.loc 1), some (.int (k : Int)), o5, some (.loc 7), some (.int cell), some (.int y), o9, o10, o11, o12, o13, o14] s := g8 e1
  have S9 : (sSet 9 (dOp oAdd (dC (.str [116, 114, 105, 112])) (dOp oIx (dC (.str [97, 98, 99, 100, 101])) (dVar 4)))) [o0, o1, some ST, some (.loc 1), some (.int (k : Int)), o5, some (.loc 7), some (.int cell), some (.int y), o9, o10, o11, o12, o13, o14] s = .nx [o0, o1, some ST, some (.loc 1), some (.int (k : Int)), o5, some (.loc 7), some (.int cell), some (.int y), some (.str (tn k)), o10, o11, o12, o13, o14] s := by
    simp only [sSet_eq, dOp_eq, dC_eq, dVar_eq, List.getElem?_cons_succ, List.getElem?_cons_zero, bind_ok, ix, ad, out_ok, List.set]
  have S10 : (sSet 10 (dTup (aCons (dVar 9) (aCons (dOp oIx (dLst (aCons (dC (.str [100, 97, 105, 108, 121])) (aCons (dC (.str [115, 111, 109, 101])) aNil))) (dOp oMod (dVar 8) (dC (.int 2)))) (aCons (dCall f__law_calls (aCons (dVar 8) (aCons (dVar 2) (aCons (dOp oAdd (dC (.int 2)) (dOp oMod (dOp oDiv (dVar 8) (dC (.int 2))) (dC (.int 5)))) aNil)))) aNil))))) [o0, o1, some ST, some (.loc 1), some (.int (k : Int)), o5, some (.loc 7), some (.int cell), some (.int y), some (.str (tn k)), o10, o11, o12, o13, o14] s = .nx [o0, o1, some ST, some (.loc 1), some (.int (k : Int)), o5, some (.loc 7), some (.int cell), some (.int y), some (.str (tn k)), some G0, o11, o12, o13, o14] s := by
    rw [← hG0]
    exact g10 er hM ec
  have S11 : (sSet 11 (dVar 10)) [o0, o1, some ST, some (.loc 1), some (.int (k : Int)), o5, some (.loc 7), some (.int cell), some (.int y), some (.str (tn k)), some G0, o11, o12, o13, o14] s = .nx [o0, o1, some ST, some (.loc 1), some (.int (k : Int)), o5, some (.loc 7), some (.int cell), some (.int y), some (.str (tn k)), some G0, some G0, o12, o13, o14] s := by simp
  have S12 : (sFor (itR1 (aCons (dOp oMod (dOp oDiv (dVar 8) (dC (.int 10))) (dC (.int 3))) aNil)) (tgN 12) g_law_b2) [o0, o1, some ST, some (.loc 1), some (.int (k : Int)), o5, some (.loc 7), some (.int cell), some (.int y), some (.str (tn k)), some G0, some G0, o12, o13, o14] s = .nx [o0, o1, some ST, some (.loc 1), some (.int (k : Int)), o5, some (.loc 7), some (.int cell), some (.int y), some (.str (tn k)), some G0, some G, p12, o13, o14] s := by
    have sm : small62 (T : Int) = true := by unfold small62; simp; omega
    have it : itR1 (aCons (dOp oMod (dOp oDiv (dVar 8) (dC (.int 10))) (dC (.int 3))) aNil) [o0, o1, some ST, some (.loc 1), some (.int (k : Int)), o5, some (.loc 7), some (.int cell), some (.int y), some (.str (tn k)), some G0, some G0, o12, o13, o14] s = .ok (intsD 0 T) s := by
      have ha : aCons (dOp oMod (dOp oDiv (dVar 8) (dC (.int 10))) (dC (.int 3))) aNil [o0, o1, some ST, some (.loc 1), some (.int (k : Int)), o5, some (.loc 7), some (.int cell), some (.int y), some (.str (tn k)), some G0, some G0, o12, o13, o14] s = .ok [.int (T : Int)] s := by simp [hT]
      rw [itR1_eq, ha, bind_ok]
      dsimp only
      rw [if_pos sm, Int.toNat_natCast]
    rw [sFor_eq, it, out_ok]
    exact lp
  have S13 : (sSet 13 (dCall f__law_due (aCons (dVar 2) (aCons (dVar 6) (aCons (dOp oIx (dVar 11) (dC (.int 0))) (aCons (dOp oIx (dVar 11) (dC (.int 1))) (aCons (dOp oIx (dVar 11) (dC (.int 2))) aNil))))))) [o0, o1, some ST, some (.loc 1), some (.int (k : Int)), o5, some (.loc 7), some (.int cell), some (.int y), some (.str (tn k)), some G0, some G, p12, o13, o14] s = .nx [o0, o1, some ST, some (.loc 1), some (.int (k : Int)), o5, some (.loc 7), some (.int cell), some (.int y), some (.str (tn k)), some G0, some G, p12, some (dueW (dueT A R B n' r' c')), o14] s := g13 q0 q1 q2 pd
  have fin : ∀ (B' : Ps) (s' : Sto) (p14 : Option D), LS A R B' s' → B'.map (·.1) = tns (k + 1) → (sIf (tOrD (tst (dOp oNe (dCall f__law_tried (aCons (dVar 3) (aCons (dTup (aCons (dVar 9) (aCons (dOp oIx (dVar 10) (dC (.int 1))) (aCons (dOp oIx (dVar 10) (dC (.int 2))) aNil)))) aNil))) (dC (.str [116, 119, 105, 99, 101])))) (tst (dOp oNe (dMeth 6 [(20, f_Net_trips)] (dVar 3) aNil) (dVar 6)))) (sRet (dC (.bl false))) sPass) [o0, o1, some ST, some (.loc 1), some (.int (k : Int)), o5, some (.loc 7), some (.int cell), some (.int y), some (.str (tn k)), some G0, some G, p12, some (dueW (dueT A R B n' r' c')), p14] s' = .nx [o0, o1, some ST, some (.loc 1), some (.int (k : Int)), o5, some (.loc 7), some (.int cell), some (.int y), some (.str (tn k)), some G0, some G, p12, some (dueW (dueT A R B n' r' c')), p14] s' := fun B' s' p14 h' hB' => by
    refine end_step w h' (by rw [hB']; exact tns_ok (by omega)) (nm := tn k) (ru := ru) (cs := cs) (tn_ok hk) (by rw [hB', tns_succ]; simp) ?_ rt okc hl.2 rfl rfl rfl rfl gg1 gg2
    have : (B'.map (·.1)).length = k + 2 := by rw [hB', tns_len]
    rw [List.length_map] at this
    omega
  cases hd : dueT A R B n' r' c' with
  | none =>
    rw [hd] at tr pd S13 fin
    obtain ⟨⟨z, en, hz, hf⟩, _, _⟩ := dueT_ok g'.cs hd
    rw [hB] at hf
    have ez := z_of g'.n en hz hf
    rw [ez] at en
    have P := h.put g'.cs hd
    have hB1 : (addB B n' r' c').map (·.1) = tns (k + 1) := by
      show (B ++ [(strOf n', D.tup [r', .tup (callsOf c')])]).map (·.1) = _
      rw [List.map_append, hB, tns_succ, en]
      rfl
    have tr' : f__law_tried [.loc 1, G] s = .ok (.tup [.str wTold, .non]) (put6 (addB B n' r' c') s) := tr
    generalize addB B n' r' c' = B1 at *
    have t6 : (put6 B1 s)[7]? = some (.lst ((B.map (·.1)).map D.str)) := by rw [List.getElem?_set_ne (by omega)]; exact h.t
    have ap : (put6 B1 s).set 7 (.lst ((B.map (·.1)).map D.str ++ [.str (tn k)])) = put7 B1 (put6 B1 s) := by
      show _ = (put6 B1 s).set 7 (.lst ((B1.map (·.1)).map D.str))
      rw [hB1, hB, tns_succ, List.map_append]
      rfl
    have tl : ((B.map (·.1)).map D.str).length < 1000000 := by
      rw [List.length_map, hB, tns_len]
      omega
    have inn := in_loc (neg := true) (z := tn k) P.t
    have mem : decide (tn k ∈ B1.map (·.1)) = true := by rw [hB1, tns_succ]; simp
    rw [mem] at inn
    have f1 := fin B1 _ o14 P hB1
    refine ⟨B1, _, some (.int y), some (.str (tn k)), some G0, some G, p12, some (dueW none), o14, P, hB1, ?_⟩
    unfold g_law_b3
    generalize put7 B1 (put6 B1 s) = s2 at *
    generalize (B.map (·.1)).map D.str = W at *
    generalize put6 B1 s = s1 at *
    have td := td_ne (s := s1)
    have q0 := q0 s1
    rw [en] at q0
    refine seq_step S8 (seq_step S9 (seq_step S10 (seq_step S11 (seq_step S12 (seq_step S13 (seq_step (δ' := [o0, o1, some ST, some (.loc 1), some (.int (k : Int)), o5, some (.loc 7), some (.int cell), some (.int y), some (.str (tn k)), some G0, some G, p12, some (dueW none), o14]) (s' := s1) ?_ (seq_step (δ' := [o0, o1, some ST, some (.loc 1), some (.int (k : Int)), o5, some (.loc 7), some (.int cell), some (.int y), some (.str (tn k)), some G0, some G, p12, some (dueW none), o14]) (s' := s2) ?_ (seq_step (δ' := [o0, o1, some ST, some (.loc 1), some (.int (k : Int)), o5, some (.loc 7), some (.int cell), some (.int y), some (.str (tn k)), some G0, some G, p12, some (dueW none), o14]) (s' := s2) ?_ f1))))))))
    · have tq : (tst (dOp oNe (dCall f__law_tried (aCons (dVar 3) (aCons (dVar 11) aNil))) (dIfE (tst (dOp (oIs false) (dVar 13) (dC .non))) (dTup (aCons (dC (.str [116, 111, 108, 100])) (aCons (dC .non) aNil))) (dVar 13)))) [o0, o1, some ST, some (.loc 1), some (.int (k : Int)), o5, some (.loc 7), some (.int cell), some (.int y), some (.str (tn k)), some G0, some G, p12, some (dueW none), o14] s = .ok false s1 := by
        exact g14a tr' td
      rw [sIf_eq, tq]
      rfl
    · simp [dueW, t6, tl, q0, ap, lim_eq]
    · have tq : (tst (dOp (oInA true) (dVar 9) (dVar 6))) [o0, o1, some ST, some (.loc 1), some (.int (k : Int)), o5, some (.loc 7), some (.int cell), some (.int y), some (.str (tn k)), some G0, some G, p12, some (dueW none), o14] s2 = .ok false s2 := by
        simp only [tst_eq, dOp_eq, dVar_eq, List.getElem?_cons_succ, List.getElem?_cons_zero, bind_ok, inn]
        rfl
      rw [sIf_eq, tq]
      rfl
  | some dk =>
    rw [hd] at tr pd S13 fin
    have tr' : f__law_tried [.loc 1, G] s = .ok (.str (wd dk)) s := tr
    have okB : okAll (B.map (·.1)) := by rw [hB]; exact tns_ok (by omega)
    have ts := p_trips h.nt
    have ne2 := trips_ne h okB
    have ob := h.nt.o
    have inn := in_loc (neg := true) (z := tn k) h.t
    have mem : decide (tn k ∈ B.map (·.1)) = false := decide_eq_false (by rw [hB]; exact tn_fresh)
    rw [mem] at inn
    obtain ⟨B1, s4, p14, P, hB1, run⟩ := turn_in (o0 := o0) (o1 := o1) (o5 := o5) (o8 := some (.int y)) (o11 := some G) (o12 := p12) (o13 := some (dueW (some dk))) (o14 := o14) (cell := cell) (ST := ST) w h hB hk hr hl hm hR hG0.symm
    have f1 := fin B1 s4 p14 P hB1
    refine ⟨B1, s4, some (.int y), some (.str (tn k)), some G0, some G, p12, some (dueW (some dk)), p14, P, hB1, ?_⟩
    unfold g_law_b3
    refine seq_step S8 (seq_step S9 (seq_step S10 (seq_step S11 (seq_step S12 (seq_step S13 (seq_step (δ' := [o0, o1, some ST, some (.loc 1), some (.int (k : Int)), o5, some (.loc 7), some (.int cell), some (.int y), some (.str (tn k)), some G0, some G, p12, some (dueW (some dk)), o14]) (s' := s) ?_ (seq_step (δ' := [o0, o1, some ST, some (.loc 1), some (.int (k : Int)), o5, some (.loc 7), some (.int cell), some (.int y), some (.str (tn k)), some G0, some G, p12, some (dueW (some dk)), o14]) (s' := s) ?_ (seq_step (δ' := [o0, o1, some ST, some (.loc 1), some (.int (k : Int)), o5, some (.loc 7), some (.int cell), some (.int y), some (.str (tn k)), some G0, some G, p12, some (dueW (some dk)), p14]) (s' := s4) ?_ f1))))))))
    · have wn := wd_ne (s := s) (z := wd dk)
      have tq : (tst (dOp oNe (dCall f__law_tried (aCons (dVar 3) (aCons (dVar 11) aNil))) (dIfE (tst (dOp (oIs false) (dVar 13) (dC .non))) (dTup (aCons (dC (.str [116, 111, 108, 100])) (aCons (dC .non) aNil))) (dVar 13)))) [o0, o1, some ST, some (.loc 1), some (.int (k : Int)), o5, some (.loc 7), some (.int cell), some (.int y), some (.str (tn k)), some G0, some G, p12, some (dueW (some dk)), o14] s = .ok false s := by
        exact g14b tr' rfl wn
      rw [sIf_eq, tq]
      rfl
    · have me : dMeth 6 [(20, f_Net_trips)] (dVar 3) aNil [o0, o1, some ST, some (.loc 1), some (.int (k : Int)), o5, some (.loc 7), some (.int cell), some (.int y), some (.str (tn k)), some G0, some G, p12, some (dueW (some dk)), o14] s = .ok (.lst (ky B)) s := by
        simp [dMeth_eq, ob, ts, List.lookup]
      exact g15b rfl me ne2
    · have tq : (tst (dOp (oInA true) (dVar 9) (dVar 6))) [o0, o1, some ST, some (.loc 1), some (.int (k : Int)), o5, some (.loc 7), some (.int cell), some (.int y), some (.str (tn k)), some G0, some G, p12, some (dueW (some dk)), o14] s = .ok true s := by
        simp only [tst_eq, dOp_eq, dVar_eq, List.getElem?_cons_succ, List.getElem?_cons_zero, bind_ok, inn]
        rfl
      rw [sIf_eq, tq]
      exact run
end
end Rb
namespace Rb
open PySem PySem.Spec L2 Mp
/-! ### the borders -/
def gn (k : Nat) : List Nat := [103, 111, 111, 100, 97 + k]
theorem gn_ok {k : Nat} (h : k < 5) : NmOk (gn k) := by
  refine ⟨by simp [gn], by simp [gn], fun c hc => ?_⟩
  simp only [gn, List.mem_cons, List.not_mem_nil, or_false] at hc
  omega
theorem abcd_ix : ∀ {k : Nat} {s : Sto}, k < 4 → oIx (.str [97, 98, 99, 100]) (.int (k : Int)) s = .ok (.str [97 + k]) s
  | 0, s, _ => by rfl
  | 1, s, _ => by rfl
  | 2, s, _ => by rfl
  | 3, s, _ => by rfl
  | k + 4, s, h => absurd h (by omega)
section
variable {A R B : Ps} {names : List (List Nat)} {s : Sto}
theorem due_c (hR : R.map (·.1) = [wDaily, wSome]) {z : List Nat} {cs : List Cl3} (hz : NmOk z) (hf : z ∉ B.map (·.1)) : dueT A R B (.str z) (.str wSome) (.lst (cs.map cD)) = if shp (cs.map cD) = false then some 11 else dueL A none (cs.map cD) := by
  unfold dueT
  have i0 : inB B (.str z) = false := decide_eq_false hf
  have rb : ruB (.str wSome) = true := rfl
  rw [nmD_of hz, i0, ru_eq hR, rb]
  simp only [Bool.true_eq_false, Bool.false_eq_true, if_false]
  rfl
theorem bt (hR : R.map (·.1) = [wDaily, wSome]) (h : Nt A R B s) (hs : Sb s) (nd : (B.map (·.1)).Nodup) {k : Nat} (hk : k < 4) (hf : gn k ∉ B.map (·.1)) (hl : B.length < 10) {cs : List Cl3} (okc : ∀ c ∈ cs, NmOk c.1) (hcl : cs.length ≤ 6) (hsh : shp (cs.map cD) = true) (hdu : dueL A none (cs.map cD) = none) {o1 o2 o3 o4 o5 o6 o9 : Option D} {C : D} (hC : C = .lst (cs.map cD)) :
    ∃ B1 s1, Nt A R B1 s1 ∧ Sb s1 ∧ B1.map (·.1) = B.map (·.1) ++ [gn k] ∧ g__law_borders_b1 [some (.loc 1), o1, o2, o3, o4, o5, o6, some (.int (k : Int)), some C, o9] s = .nx [some (.loc 1), o1, o2, o3, o4, o5, o6, some (.int (k : Int)), some C, some (.str (gn k))] s1 := by
  subst hC
  have gk := gn_ok (k := k) (by omega)
  have csC := cs_cD okc
  have du : dueT A R B (.str (gn k)) (.str wSome) (.lst (cs.map cD)) = none := by
    rw [due_c hR gk hf, hsh, hdu]
    rfl
  have rt : Rt (.str wSome) := .inl ⟨wSome, rfl, by decide, rfl⟩
  have tr := p_tried (n := .str (gn k)) (r := .str wSome) (c := .lst (cs.map cD)) h hs (at_str gk) rt csC (fun _ => hl) (fun xs e => by
    cases e
    rw [List.length_map]
    omega)
  rw [du] at tr
  have tr' : f__law_tried [.loc 1, .tup [.str (gn k), .str wSome, .lst (cs.map cD)]] s = .ok (.tup [.str wTold, .non]) (put6 (addB B (.str (gn k)) (.str wSome) (.lst (cs.map cD))) s) := tr
  have P : Nt A R (addB B (.str (gn k)) (.str wSome) (.lst (cs.map cD))) (put6 (addB B (.str (gn k)) (.str wSome) (.lst (cs.map cD))) s) := h.put
  have Q : Sb (put6 (addB B (.str (gn k)) (.str wSome) (.lst (cs.map cD))) s) := put_sb h hs csC du
  have mem : (gn k, D.tup [.str wSome, .tup (cs.map cD)]) ∈ addB B (.str (gn k)) (.str wSome) (.lst (cs.map cD)) := by
    show _ ∈ B ++ [(gn k, D.tup [.str wSome, .tup (cs.map cD)])]
    simp
  have hB1 : (addB B (.str (gn k)) (.str wSome) (.lst (cs.map cD))).map (·.1) = B.map (·.1) ++ [gn k] := by
    show (B ++ [(gn k, D.tup [.str wSome, .tup (cs.map cD)])]).map (·.1) = _
    rw [List.map_append]
    rfl
  generalize addB B (.str (gn k)) (.str wSome) (.lst (cs.map cD)) = B1 at *
  generalize put6 B1 s = s1 at *
  have nd1 : (B1.map (·.1)).Nodup := by
    rw [hB1, List.nodup_append]
    refine ⟨nd, by simp, fun a ha b hb e => ?_⟩
    rw [List.mem_singleton] at hb
    exact hf (by rw [← hb, ← e]; exact ha)
  have cl := p_ncalls P gk nd1 mem
  refine ⟨B1, s1, P, Q, hB1, ?_⟩
  have dc := dats_cD okc
  have ne : oNe (.lst (cs.map cD)) (.lst (cs.map cD)) s1 = .ok (.bl false) s1 := by
    show oEqG true (.lst (cs.map cD)) (.lst (cs.map cD)) s1 = _
    rw [oEq_ll dc dc, eqDs_cD]
    rfl
  have fz := frzL_ok (xs := cs.map cD) Q (below_cD cs)
  have td := td_ne (s := s1)
  have ob := P.o
  have ad : oAdd (.str [103, 111, 111, 100]) (.str [97 + k]) s = .ok (.str (gn k)) s := by
    rw [oAdd_str, if_pos (by rw [lim_eq]; simp)]
    rfl
  have ix := abcd_ix (s := s) hk
  unfold g__law_borders_b1
  refine seq_step (δ' := [some (.loc 1), o1, o2, o3, o4, o5, o6, some (.int (k : Int)), some (.lst (cs.map cD)), some (.str (gn k))]) (s' := s) (by
    simp only [sSet_eq, dOp_eq, dC_eq, dVar_eq, List.getElem?_cons_succ, List.getElem?_cons_zero, bind_ok, ix, ad, out_ok, List.set]) ?_
  generalize D.lst (cs.map cD) = C at tr' ne fz
  have me : dMeth 6 [(20, f_Net_calls)] (dVar 0) (aCons (dVar 9) aNil) [some (.loc 1), o1, o2, o3, o4, o5, o6, some (.int (k : Int)), some C, some (.str (gn k))] s1 = .ok (.loc s1.length) (s1 ++ [.lst (cs.map cD)]) := by
    simp [dMeth_eq, List.lookup, ob, cl]
  have l3 : 3 ≤ lim := by decide
  have bt : dTup (aCons (dVar 9) (aCons (dC (.str [115, 111, 109, 101])) (aCons (dVar 8) aNil))) [some (.loc 1), o1, o2, o3, o4, o5, o6, some (.int (k : Int)), some C, some (.str (gn k))] s = .ok (.tup [.str (gn k), .str wSome, C]) s := by
    simp [l3]
  generalize D.tup [.str (gn k), .str wSome, C] = GG at *
  have t1 : dTup (aCons (dC (.str [116, 111, 108, 100])) (aCons (dC .non) aNil)) [some (.loc 1), o1, o2, o3, o4, o5, o6, some (.int (k : Int)), some C, some (.str (gn k))] s1 = .ok (.tup [.str wTold, .non]) s1 := by simp [lim_eq]
  generalize D.tup [.str wTold, .non] = TD at *
  have tt : (tOrD (tst (dOp oNe (dCall f__law_tried (aCons (dVar 0) (aCons (dTup (aCons (dVar 9) (aCons (dC (.str [115, 111, 109, 101])) (aCons (dVar 8) aNil)))) aNil))) (dTup (aCons (dC (.str [116, 111, 108, 100])) (aCons (dC .non) aNil))))) (tst (dOp oNe (dFrz (dMeth 6 [(20, f_Net_calls)] (dVar 0) (aCons (dVar 9) aNil))) (dVar 8)))) [some (.loc 1), o1, o2, o3, o4, o5, o6, some (.int (k : Int)), some C, some (.str (gn k))] s = .ok false s1 := by
    simp only [tOr_eq, tst_eq, dOp_eq, dCall_eq, dFrz_eq, aCons_eq, dVar_eq, List.getElem?_cons_succ, List.getElem?_cons_zero, bind_ok, bt, aNil_eq, tr', t1, td, me, fz, ne, Bool.false_eq_true, if_false]
  rw [sIf_eq, tt]
  rfl
theorem bad1 (hR : R.map (·.1) = [wDaily, wSome]) (h : Nt A R B s) (hs : Sb s) {z : List Nat} (hz : NmOk z) (hf : z ∉ B.map (·.1)) {cs : List Cl3} (okc : ∀ c ∈ cs, NmOk c.1) (hcl : cs.length ≤ 10) (hsh : shp (cs.map cD) = false ∨ dueL A none (cs.map cD) = some 11) :
    f__law_tried [.loc 1, .tup [.str z, .str wSome, .lst (cs.map cD)]] s = .ok (.str [99, 97, 108, 108, 115]) s := by
  have csC := cs_cD okc
  have du : dueT A R B (.str z) (.str wSome) (.lst (cs.map cD)) = some 11 := by
    rw [due_c hR hz hf]
    rcases hsh with e | e
    · rw [e]
      rfl
    · rw [e]
      cases shp (cs.map cD) <;> rfl
  have rt : Rt (.str wSome) := .inl ⟨wSome, rfl, by decide, rfl⟩
  have tr := p_tried (n := .str z) (r := .str wSome) (c := .lst (cs.map cD)) h hs (at_str hz) rt csC (fun e => by rw [du] at e; cases e) (fun xs e => by
    cases e
    rw [List.length_map]
    omega)
  rw [du] at tr
  exact tr
theorem due0 (hn : ∀ z ∈ names, NmOk z ∧ z ∈ A.map (·.1)) {a : List Nat} {e : Int} {rest : List Cl3} (ha : a ∈ names) (he : 0 ≤ e ∧ e ≤ 2879) (hr : Rise names (some a) e rest) : dueL A none (((a, 0, e) :: rest).map cD) = none := by
  obtain ⟨k1, k2⟩ := hn a ha
  have n1 : (nmD (.str a) && inB A (.str a)) = true := by
    rw [nmD_of k1]
    exact decide_eq_true k2
  have t := rise_due hn rest (some a) e (some (a, 0, e)) (fun p q => by cases q; exact ⟨rfl, rfl⟩) he.1 hr
  have m1 : amD 0 2879 (.int 0) = true := rfl
  have m2 : amD 0 2879 (.int e) = true := by
    show (decide (0 ≤ e) && decide (e ≤ 2879)) = true
    rw [decide_eq_true he.1, decide_eq_true he.2]
    rfl
  have b : bump none (a, 0, e) = false := by
    show (decide (e < 0) || false) = false
    rw [decide_eq_false (by omega)]
    rfl
  rw [List.map_cons]
  show dueL A none (.tup [.str a, .int 0, .int e] :: rest.map cD) = none
  unfold dueL
  rw [n1, m1, m2]
  show (if bump none (a, 0, e) = true then some 11 else dueL A (some (a, 0, e)) (rest.map cD)) = none
  rw [b, t]
  rfl
theorem dueB (hn : ∀ z ∈ names, NmOk z ∧ z ∈ A.map (·.1)) {a : List Nat} {pv : Option Cl3} {i e : Int} {rest : List Cl3} (ha : a ∈ names) (hi : 0 ≤ i ∧ i ≤ 2879) (he : 0 ≤ e ∧ e ≤ 2879) : dueL A pv (((a, i, e) :: rest).map cD) = if bump pv (a, i, e) = true then some 11 else dueL A (some (a, i, e)) (rest.map cD) := by
  obtain ⟨k1, k2⟩ := hn a ha
  have n1 : (nmD (.str a) && inB A (.str a)) = true := by
    rw [nmD_of k1]
    exact decide_eq_true k2
  have m1 : amD 0 2879 (.int i) = true := by
    show (decide (0 ≤ i) && decide (i ≤ 2879)) = true
    rw [decide_eq_true hi.1, decide_eq_true hi.2]
    rfl
  have m2 : amD 0 2879 (.int e) = true := by
    show (decide (0 ≤ e) && decide (e ≤ 2879)) = true
    rw [decide_eq_true he.1, decide_eq_true he.2]
    rfl
  rw [List.map_cons]
  show dueL A pv (.tup [.str a, .int i, .int e] :: rest.map cD) = _
  rw [dueL, n1, m1, m2]
  rfl
end
theorem cut_bl {n : Nat} {s : Sto} {b : Bool} : ∃ s', cut n (.bl b) s = .ok (.bl b) s' := by
  unfold Mp.cut
  split
  · exact ⟨_, rfl⟩
  · split
    · exact ⟨_, rfl⟩
    · exact ⟨_, rfl⟩
end Rb
namespace Rb
open PySem PySem.Spec L2 Mp
def gns (j i : Nat) : List (List Nat) := tns j ++ (List.range i).map gn
theorem gns_succ {j i : Nat} : gns j (i + 1) = gns j i ++ [gn i] := by
  unfold gns
  rw [List.range_succ, List.map_append, List.append_assoc]
  rfl
theorem gn_fresh {j i : Nat} : gn i ∉ gns j i := by
  unfold gns tns
  rw [List.mem_append, List.mem_cons, not_or, not_or]
  refine ⟨⟨fun e => by simp [gn] at e, fun h => ?_⟩, fun h => ?_⟩
  · obtain ⟨k, hk, e⟩ := List.mem_map.mp h
    simp [tn, gn] at e
  · obtain ⟨k, hk, e⟩ := List.mem_map.mp h
    have := List.mem_range.mp hk
    simp [gn] at e
    omega
theorem gns_nd {j : Nat} : ∀ {i : Nat}, (gns j i).Nodup
  | 0 => by
    unfold gns
    simp only [List.range_zero, List.map_nil, List.append_nil]
    exact tns_nd
  | i + 1 => by
    rw [gns_succ, List.nodup_append]
    refine ⟨gns_nd, by simp, fun x hx y hy e => ?_⟩
    rw [List.mem_singleton] at hy
    exact gn_fresh (by rw [← hy, ← e]; exact hx)
theorem gns_len {j i : Nat} : (gns j i).length = j + 1 + i := by
  unfold gns
  rw [List.length_append, tns_len]
  simp
theorem bad_fresh {j i : Nat} : [98, 97, 100] ∉ gns j i := by
  unfold gns tns
  rw [List.mem_append, List.mem_cons, not_or, not_or]
  refine ⟨⟨fun e => by simp at e, fun h => ?_⟩, fun h => ?_⟩
  · obtain ⟨k, hk, e⟩ := List.mem_map.mp h
    simp [tn] at e
  · obtain ⟨k, hk, e⟩ := List.mem_map.mp h
    simp [gn] at e
theorem p_borders {A R B : Ps} {names : List (List Nat)} {s : Sto} (w : Wd A R names) (h : Nt A R B s) (hs : Sb s) {j : Nat} (hj : j ≤ 5) (hB : B.map (·.1) = tns j) : ∃ s', f__law_borders [.loc 1, .lst (names.map D.str)] s = .ok (.bl true) s' := by
  have hn : ∀ z ∈ names, NmOk z ∧ z ∈ A.map (·.1) := fun z hz => ⟨w.n z hz, by rw [w.a]; exact hz⟩
  obtain ⟨a, b, rest, en⟩ : ∃ a b rest, names = a :: b :: rest := by
    have := w.l.1
    match names, this with
    | a :: b :: rest, _ => exact ⟨a, b, rest, rfl⟩
  have ha : a ∈ names := by rw [en]; simp
  have hb : b ∈ names := by rw [en]; simp
  have hab : a ≠ b := by
    have := w.nd
    rw [en] at this
    intro e
    rw [e] at this
    simp at this
  have na := (hn a ha).1
  have nb := (hn b hb).1
  have okab : ∀ cs : List Cl3, (∀ c ∈ cs, c.1 = a ∨ c.1 = b) → ∀ c ∈ cs, NmOk c.1 := fun cs hc c hm => by
    rcases hc c hm with e | e
    · rw [e]; exact na
    · rw [e]; exact nb
  have sl2 : oSl (.lst (names.map D.str)) none (some 2) s = .ok (.lst [.str a, .str b]) s := by
    have ct : cutL (names.map D.str) none (some 2) = (names.map D.str).take 2 := cut_take (i := 2) (by rw [List.length_map]; exact w.l.1)
    rw [oSl_l7, ct, en]
    rfl
  generalize D.lst (names.map D.str) = ST at sl2
  have l0 : ∀ n, n ≤ 10 → n ≤ lim := fun n hn => by rw [lim_eq]; omega
  have S1 : sAsg (dSl (dVar 1) pNone (pSome (dC (.int 2)))) (tgL [(tgN 2), (tgN 3)]) [some (.loc 1), some ST, none, none, none, none, none, none, none, none] s = .nx [some (.loc 1), some ST, some (.str a), some (.str b), none, none, none, none, none, none] s := by
    simp [sl2]
  have S2 : (sSet 4 (dLstC (aCons (dLst (aCons (dTup (aCons (dVar 2) (aCons (dC (.int 0)) (aCons (dC (.int 0)) aNil)))) (aCons (dTup (aCons (dVar 3) (aCons (dC (.int 1)) (aCons (dC (.int 2879)) aNil)))) aNil))) (aCons (dLst (aCons (dTup (aCons (dVar 2) (aCons (dC (.int 0)) (aCons (dC (.int 5)) aNil)))) (aCons (dTup (aCons (dVar 3) (aCons (dC (.int 6)) (aCons (dC (.int 6)) aNil)))) (aCons (dTup (aCons (dVar 2) (aCons (dC (.int 7)) (aCons (dC (.int 7)) aNil)))) aNil)))) aNil)))) [some (.loc 1), some ST, some (.str a), some (.str b), none, none, none, none, none, none] s = .nx [some (.loc 1), some ST, some (.str a), some (.str b), some (.loc s.length), none, none, none, none, none] (s ++ [.lst [D.lst [.tup [.str a, .int 0, .int 0], .tup [.str b, .int 1, .int 2879]], D.lst [.tup [.str a, .int 0, .int 5], .tup [.str b, .int 6, .int 6], .tup [.str a, .int 7, .int 7]]]]) := by
    simp [lim_eq]
  have S3 : (sDrop (dMt "list" mAppend (dVar 4) (aCons (dLst (aCons (dTup (aCons (dVar 2) (aCons (dC (.int 0)) (aCons (dC (.int 0)) aNil)))) (aCons (dTup (aCons (dVar 3) (aCons (dC (.int 2879)) (aCons (dC (.int 2879)) aNil)))) aNil))) aNil))) [some (.loc 1), some ST, some (.str a), some (.str b), some (.loc s.length), none, none, none, none, none] (s ++ [.lst [D.lst [.tup [.str a, .int 0, .int 0], .tup [.str b, .int 1, .int 2879]], D.lst [.tup [.str a, .int 0, .int 5], .tup [.str b, .int 6, .int 6], .tup [.str a, .int 7, .int 7]]]]) = .nx [some (.loc 1), some ST, some (.str a), some (.str b), some (.loc s.length), none, none, none, none, none] (s ++ [.lst [D.lst [.tup [.str a, .int 0, .int 0], .tup [.str b, .int 1, .int 2879]], D.lst [.tup [.str a, .int 0, .int 5], .tup [.str b, .int 6, .int 6], .tup [.str a, .int 7, .int 7]], D.lst [.tup [.str a, .int 0, .int 0], .tup [.str b, .int 2879, .int 2879]]]]) := by
    simp [lim_eq, set_end]
  have S4 : ∀ S : Sto, (sSet 5 (dLc (itR1 (aCons (dC (.int 7)) aNil)) (tgN 7) cYes (dTup (aCons (dOp oIx (dLst (aCons (dVar 2) (aCons (dVar 3) aNil))) (dOp oMod (dVar 7) (dC (.int 2)))) (aCons (dOp oMulA (dC (.int 10)) (dVar 7)) (aCons (dOp oAdd (dOp oMulA (dC (.int 10)) (dVar 7)) (dC (.int 9))) aNil)))) [7])) [some (.loc 1), some ST, some (.str a), some (.str b), some (.loc s.length), none, none, none, none, none] S = .nx [some (.loc 1), some ST, some (.str a), some (.str b), some (.loc s.length), some (D.lst [.tup [.str a, .int 0, .int 9], .tup [.str b, .int 10, .int 19], .tup [.str a, .int 20, .int 29], .tup [.str b, .int 30, .int 39], .tup [.str a, .int 40, .int 49], .tup [.str b, .int 50, .int 59], .tup [.str a, .int 60, .int 69]]), none, none, none, none] S := fun S => by
    have c := lcL_map (s := S) (δ := [some (.loc 1), some ST, some (.str a), some (.str b), some (.loc s.length), none, none, none, none, none]) (t := tgN 7) (e := dTup (aCons (dOp oIx (dLst (aCons (dVar 2) (aCons (dVar 3) aNil))) (dOp oMod (dVar 7) (dC (.int 2)))) (aCons (dOp oMulA (dC (.int 10)) (dVar 7)) (aCons (dOp oAdd (dOp oMulA (dC (.int 10)) (dVar 7)) (dC (.int 9))) aNil)))) (fun d => match d with | .int k => .tup [.str (if k % 2 = 0 then a else b), .int (10 * k), .int (10 * k + 9)] | _ => .non) (intsD 0 7) [] (by rw [lim_eq]; simp [intsD]) (by
      intro d hd
      obtain ⟨i, hi, rfl⟩ := mem_ints hd
      refine ⟨_, rfl, ?_⟩
      have cm : cMul 10 (0 + (i : Int)) = true := cMul_l (by omega)
      have at2 : atI [D.str a, .str b] ((0 + (i : Int)) % 2) = some (.str (if (0 + (i : Int)) % 2 = 0 then a else b)) := by
        have : (0 + (i : Int)) % 2 = 0 ∨ (0 + (i : Int)) % 2 = 1 := by omega
        rcases this with e | e
        · rw [e]; rfl
        · rw [e]; rfl
      have l3 : 3 ≤ lim := by decide
      have l2 : 2 ≤ lim := by decide
      generalize (0 + (i : Int)) = q at *
      simp [l2, l3, cm, at2])
    have e : (intsD 0 7).map (fun d => match d with | .int k => D.tup [.str (if k % 2 = 0 then a else b), .int (10 * k), .int (10 * k + 9)] | _ => .non) = [.tup [.str a, .int 0, .int 9], .tup [.str b, .int 10, .int 19], .tup [.str a, .int 20, .int 29], .tup [.str b, .int 30, .int 39], .tup [.str a, .int 40, .int 49], .tup [.str b, .int 50, .int 59], .tup [.str a, .int 60, .int 69]] := by rfl
    rw [List.nil_append, e] at c
    have it : itR1 (aCons (dC (.int 7)) aNil) [some (.loc 1), some ST, some (.str a), some (.str b), some (.loc s.length), none, none, none, none, none] S = .ok (intsD 0 7) S := by
      have sm : small62 7 = true := by decide
      have ha : aCons (dC (.int 7)) aNil [some (.loc 1), some ST, some (.str a), some (.str b), some (.loc s.length), none, none, none, none, none] S = .ok [.int 7] S := by simp
      rw [itR1_eq, ha, bind_ok]
      dsimp only
      rw [if_pos sm]
      rfl
    rw [sSet_eq, dLc_eq, it]
    simp only [bind_ok, wipeE_cons, wipeE_nil, List.set]
    rw [c]
    rfl
  have sl6 : ∀ S : Sto, oSl (D.lst [.tup [.str a, .int 0, .int 9], .tup [.str b, .int 10, .int 19], .tup [.str a, .int 20, .int 29], .tup [.str b, .int 30, .int 39], .tup [.str a, .int 40, .int 49], .tup [.str b, .int 50, .int 59], .tup [.str a, .int 60, .int 69]]) none (some 6) S = .ok (D.lst [.tup [.str a, .int 0, .int 9], .tup [.str b, .int 10, .int 19], .tup [.str a, .int 20, .int 29], .tup [.str b, .int 30, .int 39], .tup [.str a, .int 40, .int 49], .tup [.str b, .int 50, .int 59]]) S := fun S => rfl
  have sl1 : ∀ S : Sto, oSl (D.lst [.tup [.str a, .int 0, .int 9], .tup [.str b, .int 10, .int 19], .tup [.str a, .int 20, .int 29], .tup [.str b, .int 30, .int 39], .tup [.str a, .int 40, .int 49], .tup [.str b, .int 50, .int 59], .tup [.str a, .int 60, .int 69]]) none (some 1) S = .ok (D.lst [.tup [.str a, .int 0, .int 9]]) S := fun S => rfl
  have S5 : (sDrop (dMt "list" mAppend (dVar 4) (aCons (dSl (dVar 5) pNone (pSome (dC (.int 6)))) aNil))) [some (.loc 1), some ST, some (.str a), some (.str b), some (.loc s.length), some (D.lst [.tup [.str a, .int 0, .int 9], .tup [.str b, .int 10, .int 19], .tup [.str a, .int 20, .int 29], .tup [.str b, .int 30, .int 39], .tup [.str a, .int 40, .int 49], .tup [.str b, .int 50, .int 59], .tup [.str a, .int 60, .int 69]]), none, none, none, none] (s ++ [.lst [D.lst [.tup [.str a, .int 0, .int 0], .tup [.str b, .int 1, .int 2879]], D.lst [.tup [.str a, .int 0, .int 5], .tup [.str b, .int 6, .int 6], .tup [.str a, .int 7, .int 7]], D.lst [.tup [.str a, .int 0, .int 0], .tup [.str b, .int 2879, .int 2879]]]]) = .nx [some (.loc 1), some ST, some (.str a), some (.str b), some (.loc s.length), some (D.lst [.tup [.str a, .int 0, .int 9], .tup [.str b, .int 10, .int 19], .tup [.str a, .int 20, .int 29], .tup [.str b, .int 30, .int 39], .tup [.str a, .int 40, .int 49], .tup [.str b, .int 50, .int 59], .tup [.str a, .int 60, .int 69]]), none, none, none, none] (s ++ [.lst [D.lst [.tup [.str a, .int 0, .int 0], .tup [.str b, .int 1, .int 2879]], D.lst [.tup [.str a, .int 0, .int 5], .tup [.str b, .int 6, .int 6], .tup [.str a, .int 7, .int 7]], D.lst [.tup [.str a, .int 0, .int 0], .tup [.str b, .int 2879, .int 2879]], D.lst [.tup [.str a, .int 0, .int 9], .tup [.str b, .int 10, .int 19], .tup [.str a, .int 20, .int 29], .tup [.str b, .int 30, .int 39], .tup [.str a, .int 40, .int 49], .tup [.str b, .int 50, .int 59]]]]) := by
    generalize D.lst [.tup [.str a, .int 0, .int 9], .tup [.str b, .int 10, .int 19], .tup [.str a, .int 20, .int 29], .tup [.str b, .int 30, .int 39], .tup [.str a, .int 40, .int 49], .tup [.str b, .int 50, .int 59], .tup [.str a, .int 60, .int 69]] = RW at sl6
    simp [lim_eq, set_end, sl6]
  have S6 : sFrz 4 [some (.loc 1), some ST, some (.str a), some (.str b), some (.loc s.length), some (D.lst [.tup [.str a, .int 0, .int 9], .tup [.str b, .int 10, .int 19], .tup [.str a, .int 20, .int 29], .tup [.str b, .int 30, .int 39], .tup [.str a, .int 40, .int 49], .tup [.str b, .int 50, .int 59], .tup [.str a, .int 60, .int 69]]), none, none, none, none] (s ++ [.lst [D.lst [.tup [.str a, .int 0, .int 0], .tup [.str b, .int 1, .int 2879]], D.lst [.tup [.str a, .int 0, .int 5], .tup [.str b, .int 6, .int 6], .tup [.str a, .int 7, .int 7]], D.lst [.tup [.str a, .int 0, .int 0], .tup [.str b, .int 2879, .int 2879]], D.lst [.tup [.str a, .int 0, .int 9], .tup [.str b, .int 10, .int 19], .tup [.str a, .int 20, .int 29], .tup [.str b, .int 30, .int 39], .tup [.str a, .int 40, .int 49], .tup [.str b, .int 50, .int 59]]]]) = .nx [some (.loc 1), some ST, some (.str a), some (.str b), some (.lst [D.lst [.tup [.str a, .int 0, .int 0], .tup [.str b, .int 1, .int 2879]], D.lst [.tup [.str a, .int 0, .int 5], .tup [.str b, .int 6, .int 6], .tup [.str a, .int 7, .int 7]], D.lst [.tup [.str a, .int 0, .int 0], .tup [.str b, .int 2879, .int 2879]], D.lst [.tup [.str a, .int 0, .int 9], .tup [.str b, .int 10, .int 19], .tup [.str a, .int 20, .int 29], .tup [.str b, .int 30, .int 39], .tup [.str a, .int 40, .int 49], .tup [.str b, .int 50, .int 59]]]), some (D.lst [.tup [.str a, .int 0, .int 9], .tup [.str b, .int 10, .int 19], .tup [.str a, .int 20, .int 29], .tup [.str b, .int 30, .int 39], .tup [.str a, .int 40, .int 49], .tup [.str b, .int 50, .int 59], .tup [.str a, .int 60, .int 69]]), none, none, none, none] (s ++ [.dead]) := frz_step rfl
  have S7 : ∀ S : Sto, (sSet 6 (dLst (aCons (dVar 5) (aCons (dSl (dVar 5) pNone (pSome (dC (.int 1)))) (aCons (dLst (aCons (dTup (aCons (dVar 2) (aCons (dC (.int 0)) (aCons (dC (.int 0)) aNil)))) (aCons (dTup (aCons (dVar 3) (aCons (dC (.int 0)) (aCons (dC (.int 1)) aNil)))) aNil))) (aCons (dLst (aCons (dTup (aCons (dVar 2) (aCons (dC (.int 5)) (aCons (dC (.int 4)) aNil)))) (aCons (dTup (aCons (dVar 3) (aCons (dC (.int 6)) (aCons (dC (.int 6)) aNil)))) aNil))) (aCons (dLst (aCons (dTup (aCons (dVar 2) (aCons (dC (.int 1)) (aCons (dC (.int 2)) aNil)))) (aCons (dTup (aCons (dVar 2) (aCons (dC (.int 3)) (aCons (dC (.int 4)) aNil)))) aNil))) aNil))))))) [some (.loc 1), some ST, some (.str a), some (.str b), some (.lst [D.lst [.tup [.str a, .int 0, .int 0], .tup [.str b, .int 1, .int 2879]], D.lst [.tup [.str a, .int 0, .int 5], .tup [.str b, .int 6, .int 6], .tup [.str a, .int 7, .int 7]], D.lst [.tup [.str a, .int 0, .int 0], .tup [.str b, .int 2879, .int 2879]], D.lst [.tup [.str a, .int 0, .int 9], .tup [.str b, .int 10, .int 19], .tup [.str a, .int 20, .int 29], .tup [.str b, .int 30, .int 39], .tup [.str a, .int 40, .int 49], .tup [.str b, .int 50, .int 59]]]), some (D.lst [.tup [.str a, .int 0, .int 9], .tup [.str b, .int 10, .int 19], .tup [.str a, .int 20, .int 29], .tup [.str b, .int 30, .int 39], .tup [.str a, .int 40, .int 49], .tup [.str b, .int 50, .int 59], .tup [.str a, .int 60, .int 69]]), none, none, none, none] S = .nx [some (.loc 1), some ST, some (.str a), some (.str b), some (.lst [D.lst [.tup [.str a, .int 0, .int 0], .tup [.str b, .int 1, .int 2879]], D.lst [.tup [.str a, .int 0, .int 5], .tup [.str b, .int 6, .int 6], .tup [.str a, .int 7, .int 7]], D.lst [.tup [.str a, .int 0, .int 0], .tup [.str b, .int 2879, .int 2879]], D.lst [.tup [.str a, .int 0, .int 9], .tup [.str b, .int 10, .int 19], .tup [.str a, .int 20, .int 29], .tup [.str b, .int 30, .int 39], .tup [.str a, .int 40, .int 49], .tup [.str b, .int 50, .int 59]]]), some (D.lst [.tup [.str a, .int 0, .int 9], .tup [.str b, .int 10, .int 19], .tup [.str a, .int 20, .int 29], .tup [.str b, .int 30, .int 39], .tup [.str a, .int 40, .int 49], .tup [.str b, .int 50, .int 59], .tup [.str a, .int 60, .int 69]]), some (D.lst [.lst [.tup [.str a, .int 0, .int 9], .tup [.str b, .int 10, .int 19], .tup [.str a, .int 20, .int 29], .tup [.str b, .int 30, .int 39], .tup [.str a, .int 40, .int 49], .tup [.str b, .int 50, .int 59], .tup [.str a, .int 60, .int 69]], .lst [.tup [.str a, .int 0, .int 9]], .lst [.tup [.str a, .int 0, .int 0], .tup [.str b, .int 0, .int 1]], .lst [.tup [.str a, .int 5, .int 4], .tup [.str b, .int 6, .int 6]], .lst [.tup [.str a, .int 1, .int 2], .tup [.str a, .int 3, .int 4]]]), none, none, none] S := fun S => by
    generalize D.lst [D.lst [.tup [.str a, .int 0, .int 0], .tup [.str b, .int 1, .int 2879]], D.lst [.tup [.str a, .int 0, .int 5], .tup [.str b, .int 6, .int 6], .tup [.str a, .int 7, .int 7]], D.lst [.tup [.str a, .int 0, .int 0], .tup [.str b, .int 2879, .int 2879]], D.lst [.tup [.str a, .int 0, .int 9], .tup [.str b, .int 10, .int 19], .tup [.str a, .int 20, .int 29], .tup [.str b, .int 30, .int 39], .tup [.str a, .int 40, .int 49], .tup [.str b, .int 50, .int 59]]] = LL at *
    have sl1 := sl1 S
    generalize hRW : D.lst [.tup [.str a, .int 0, .int 9], .tup [.str b, .int 10, .int 19], .tup [.str a, .int 20, .int 29], .tup [.str b, .int 30, .int 39], .tup [.str a, .int 40, .int 49], .tup [.str b, .int 50, .int 59], .tup [.str a, .int 60, .int 69]] = RW at sl1
    rw [← hRW]
    rw [← hRW] at sl1
    simp [lim_eq, sl1]
  have h0 : Nt A R B (s ++ [.dead]) := h.app
  have s0 : Sb (s ++ [.dead]) := sb_app hs rfl
  generalize s ++ [Cell.dead] = sd at *
  have len : ∀ {B' : Ps} {i : Nat}, B'.map (·.1) = gns j i → i ≤ 3 → B'.length < 10 := fun {B' i} e hi => by
    have : (B'.map (·.1)).length = j + 1 + i := by rw [e, gns_len]
    rw [List.length_map] at this
    omega
  have n0 : B.map (·.1) = gns j 0 := by
    rw [hB]
    unfold gns
    simp
  obtain ⟨B1, s1, P1, Q1, m1, e1⟩ := bt (k := 0) w.r h0 s0 (by rw [n0]; exact gns_nd) (by decide) (by rw [n0]; exact gn_fresh) (len n0 (by decide)) (cs := [(a, 0, 0), (b, 1, 2879)]) (okab _ (by simp)) (by simp) (by rfl) (due0 hn ha (e := 0) (rest := [(b, 1, 2879)]) (by decide) ⟨hb, fun n e => by cases e; exact hab, by dsimp only; decide, by dsimp only; decide, by dsimp only; decide, trivial⟩) (o1 := some ST) (o2 := some (.str a)) (o3 := some (.str b)) (o4 := some (.lst [D.lst [.tup [.str a, .int 0, .int 0], .tup [.str b, .int 1, .int 2879]], D.lst [.tup [.str a, .int 0, .int 5], .tup [.str b, .int 6, .int 6], .tup [.str a, .int 7, .int 7]], D.lst [.tup [.str a, .int 0, .int 0], .tup [.str b, .int 2879, .int 2879]], D.lst [.tup [.str a, .int 0, .int 9], .tup [.str b, .int 10, .int 19], .tup [.str a, .int 20, .int 29], .tup [.str b, .int 30, .int 39], .tup [.str a, .int 40, .int 49], .tup [.str b, .int 50, .int 59]]])) (o5 := some (D.lst [.tup [.str a, .int 0, .int 9], .tup [.str b, .int 10, .int 19], .tup [.str a, .int 20, .int 29], .tup [.str b, .int 30, .int 39], .tup [.str a, .int 40, .int 49], .tup [.str b, .int 50, .int 59], .tup [.str a, .int 60, .int 69]])) (o6 := some (D.lst [.lst [.tup [.str a, .int 0, .int 9], .tup [.str b, .int 10, .int 19], .tup [.str a, .int 20, .int 29], .tup [.str b, .int 30, .int 39], .tup [.str a, .int 40, .int 49], .tup [.str b, .int 50, .int 59], .tup [.str a, .int 60, .int 69]], .lst [.tup [.str a, .int 0, .int 9]], .lst [.tup [.str a, .int 0, .int 0], .tup [.str b, .int 0, .int 1]], .lst [.tup [.str a, .int 5, .int 4], .tup [.str b, .int 6, .int 6]], .lst [.tup [.str a, .int 1, .int 2], .tup [.str a, .int 3, .int 4]]])) (o9 := none) (C := D.lst [.tup [.str a, .int 0, .int 0], .tup [.str b, .int 1, .int 2879]]) rfl
  have n1 : B1.map (·.1) = gns j 1 := by
    rw [m1, n0]
    exact gns_succ.symm
  obtain ⟨B2, s2, P2, Q2, m2, e2⟩ := bt (k := 1) w.r P1 Q1 (by rw [n1]; exact gns_nd) (by decide) (by rw [n1]; exact gn_fresh) (len n1 (by decide)) (cs := [(a, 0, 5), (b, 6, 6), (a, 7, 7)]) (okab _ (by simp)) (by simp) (by rfl) (due0 hn ha (e := 5) (rest := [(b, 6, 6), (a, 7, 7)]) (by decide) ⟨hb, fun n e => by cases e; exact hab, by dsimp only; decide, by dsimp only; decide, by dsimp only; decide, ⟨ha, fun n e => by cases e; exact fun q => hab q.symm, by dsimp only; decide, by dsimp only; decide, by dsimp only; decide, trivial⟩⟩) (o1 := some ST) (o2 := some (.str a)) (o3 := some (.str b)) (o4 := some (.lst [D.lst [.tup [.str a, .int 0, .int 0], .tup [.str b, .int 1, .int 2879]], D.lst [.tup [.str a, .int 0, .int 5], .tup [.str b, .int 6, .int 6], .tup [.str a, .int 7, .int 7]], D.lst [.tup [.str a, .int 0, .int 0], .tup [.str b, .int 2879, .int 2879]], D.lst [.tup [.str a, .int 0, .int 9], .tup [.str b, .int 10, .int 19], .tup [.str a, .int 20, .int 29], .tup [.str b, .int 30, .int 39], .tup [.str a, .int 40, .int 49], .tup [.str b, .int 50, .int 59]]])) (o5 := some (D.lst [.tup [.str a, .int 0, .int 9], .tup [.str b, .int 10, .int 19], .tup [.str a, .int 20, .int 29], .tup [.str b, .int 30, .int 39], .tup [.str a, .int 40, .int 49], .tup [.str b, .int 50, .int 59], .tup [.str a, .int 60, .int 69]])) (o6 := some (D.lst [.lst [.tup [.str a, .int 0, .int 9], .tup [.str b, .int 10, .int 19], .tup [.str a, .int 20, .int 29], .tup [.str b, .int 30, .int 39], .tup [.str a, .int 40, .int 49], .tup [.str b, .int 50, .int 59], .tup [.str a, .int 60, .int 69]], .lst [.tup [.str a, .int 0, .int 9]], .lst [.tup [.str a, .int 0, .int 0], .tup [.str b, .int 0, .int 1]], .lst [.tup [.str a, .int 5, .int 4], .tup [.str b, .int 6, .int 6]], .lst [.tup [.str a, .int 1, .int 2], .tup [.str a, .int 3, .int 4]]])) (o9 := some (.str (gn 0))) (C := D.lst [.tup [.str a, .int 0, .int 5], .tup [.str b, .int 6, .int 6], .tup [.str a, .int 7, .int 7]]) rfl
  have n2 : B2.map (·.1) = gns j 2 := by
    rw [m2, n1]
    exact gns_succ.symm
  obtain ⟨B3, s3, P3, Q3, m3, e3⟩ := bt (k := 2) w.r P2 Q2 (by rw [n2]; exact gns_nd) (by decide) (by rw [n2]; exact gn_fresh) (len n2 (by decide)) (cs := [(a, 0, 0), (b, 2879, 2879)]) (okab _ (by simp)) (by simp) (by rfl) (due0 hn ha (e := 0) (rest := [(b, 2879, 2879)]) (by decide) ⟨hb, fun n e => by cases e; exact hab, by dsimp only; decide, by dsimp only; decide, by dsimp only; decide, trivial⟩) (o1 := some ST) (o2 := some (.str a)) (o3 := some (.str b)) (o4 := some (.lst [D.lst [.tup [.str a, .int 0, .int 0], .tup [.str b, .int 1, .int 2879]], D.lst [.tup [.str a, .int 0, .int 5], .tup [.str b, .int 6, .int 6], .tup [.str a, .int 7, .int 7]], D.lst [.tup [.str a, .int 0, .int 0], .tup [.str b, .int 2879, .int 2879]], D.lst [.tup [.str a, .int 0, .int 9], .tup [.str b, .int 10, .int 19], .tup [.str a, .int 20, .int 29], .tup [.str b, .int 30, .int 39], .tup [.str a, .int 40, .int 49], .tup [.str b, .int 50, .int 59]]])) (o5 := some (D.lst [.tup [.str a, .int 0, .int 9], .tup [.str b, .int 10, .int 19], .tup [.str a, .int 20, .int 29], .tup [.str b, .int 30, .int 39], .tup [.str a, .int 40, .int 49], .tup [.str b, .int 50, .int 59], .tup [.str a, .int 60, .int 69]])) (o6 := some (D.lst [.lst [.tup [.str a, .int 0, .int 9], .tup [.str b, .int 10, .int 19], .tup [.str a, .int 20, .int 29], .tup [.str b, .int 30, .int 39], .tup [.str a, .int 40, .int 49], .tup [.str b, .int 50, .int 59], .tup [.str a, .int 60, .int 69]], .lst [.tup [.str a, .int 0, .int 9]], .lst [.tup [.str a, .int 0, .int 0], .tup [.str b, .int 0, .int 1]], .lst [.tup [.str a, .int 5, .int 4], .tup [.str b, .int 6, .int 6]], .lst [.tup [.str a, .int 1, .int 2], .tup [.str a, .int 3, .int 4]]])) (o9 := some (.str (gn 1))) (C := D.lst [.tup [.str a, .int 0, .int 0], .tup [.str b, .int 2879, .int 2879]]) rfl
  have n3 : B3.map (·.1) = gns j 3 := by
    rw [m3, n2]
    exact gns_succ.symm
  obtain ⟨B4, s4, P4, Q4, m4, e4⟩ := bt (k := 3) w.r P3 Q3 (by rw [n3]; exact gns_nd) (by decide) (by rw [n3]; exact gn_fresh) (len n3 (by decide)) (cs := [(a, 0, 9), (b, 10, 19), (a, 20, 29), (b, 30, 39), (a, 40, 49), (b, 50, 59)]) (okab _ (by simp)) (by simp) (by rfl) (due0 hn ha (e := 9) (rest := [(b, 10, 19), (a, 20, 29), (b, 30, 39), (a, 40, 49), (b, 50, 59)]) (by decide) ⟨hb, fun n e => by cases e; exact hab, by dsimp only; decide, by dsimp only; decide, by dsimp only; decide, ⟨ha, fun n e => by cases e; exact fun q => hab q.symm, by dsimp only; decide, by dsimp only; decide, by dsimp only; decide, ⟨hb, fun n e => by cases e; exact hab, by dsimp only; decide, by dsimp only; decide, by dsimp only; decide, ⟨ha, fun n e => by cases e; exact fun q => hab q.symm, by dsimp only; decide, by dsimp only; decide, by dsimp only; decide, ⟨hb, fun n e => by cases e; exact hab, by dsimp only; decide, by dsimp only; decide, by dsimp only; decide, trivial⟩⟩⟩⟩⟩) (o1 := some ST) (o2 := some (.str a)) (o3 := some (.str b)) (o4 := some (.lst [D.lst [.tup [.str a, .int 0, .int 0], .tup [.str b, .int 1, .int 2879]], D.lst [.tup [.str a, .int 0, .int 5], .tup [.str b, .int 6, .int 6], .tup [.str a, .int 7, .int 7]], D.lst [.tup [.str a, .int 0, .int 0], .tup [.str b, .int 2879, .int 2879]], D.lst [.tup [.str a, .int 0, .int 9], .tup [.str b, .int 10, .int 19], .tup [.str a, .int 20, .int 29], .tup [.str b, .int 30, .int 39], .tup [.str a, .int 40, .int 49], .tup [.str b, .int 50, .int 59]]])) (o5 := some (D.lst [.tup [.str a, .int 0, .int 9], .tup [.str b, .int 10, .int 19], .tup [.str a, .int 20, .int 29], .tup [.str b, .int 30, .int 39], .tup [.str a, .int 40, .int 49], .tup [.str b, .int 50, .int 59], .tup [.str a, .int 60, .int 69]])) (o6 := some (D.lst [.lst [.tup [.str a, .int 0, .int 9], .tup [.str b, .int 10, .int 19], .tup [.str a, .int 20, .int 29], .tup [.str b, .int 30, .int 39], .tup [.str a, .int 40, .int 49], .tup [.str b, .int 50, .int 59], .tup [.str a, .int 60, .int 69]], .lst [.tup [.str a, .int 0, .int 9]], .lst [.tup [.str a, .int 0, .int 0], .tup [.str b, .int 0, .int 1]], .lst [.tup [.str a, .int 5, .int 4], .tup [.str b, .int 6, .int 6]], .lst [.tup [.str a, .int 1, .int 2], .tup [.str a, .int 3, .int 4]]])) (o9 := some (.str (gn 2))) (C := D.lst [.tup [.str a, .int 0, .int 9], .tup [.str b, .int 10, .int 19], .tup [.str a, .int 20, .int 29], .tup [.str b, .int 30, .int 39], .tup [.str a, .int 40, .int 49], .tup [.str b, .int 50, .int 59]]) rfl
  have n4 : B4.map (·.1) = gns j 4 := by
    rw [m4, n3]
    exact gns_succ.symm
  have S8 : (sFor (itEnum (aCons (dVar 4) aNil)) (tgT [(tgN 7), (tgN 8)]) g__law_borders_b1) [some (.loc 1), some ST, some (.str a), some (.str b), some (.lst [D.lst [.tup [.str a, .int 0, .int 0], .tup [.str b, .int 1, .int 2879]], D.lst [.tup [.str a, .int 0, .int 5], .tup [.str b, .int 6, .int 6], .tup [.str a, .int 7, .int 7]], D.lst [.tup [.str a, .int 0, .int 0], .tup [.str b, .int 2879, .int 2879]], D.lst [.tup [.str a, .int 0, .int 9], .tup [.str b, .int 10, .int 19], .tup [.str a, .int 20, .int 29], .tup [.str b, .int 30, .int 39], .tup [.str a, .int 40, .int 49], .tup [.str b, .int 50, .int 59]]]), some (D.lst [.tup [.str a, .int 0, .int 9], .tup [.str b, .int 10, .int 19], .tup [.str a, .int 20, .int 29], .tup [.str b, .int 30, .int 39], .tup [.str a, .int 40, .int 49], .tup [.str b, .int 50, .int 59], .tup [.str a, .int 60, .int 69]]), some (D.lst [.lst [.tup [.str a, .int 0, .int 9], .tup [.str b, .int 10, .int 19], .tup [.str a, .int 20, .int 29], .tup [.str b, .int 30, .int 39], .tup [.str a, .int 40, .int 49], .tup [.str b, .int 50, .int 59], .tup [.str a, .int 60, .int 69]], .lst [.tup [.str a, .int 0, .int 9]], .lst [.tup [.str a, .int 0, .int 0], .tup [.str b, .int 0, .int 1]], .lst [.tup [.str a, .int 5, .int 4], .tup [.str b, .int 6, .int 6]], .lst [.tup [.str a, .int 1, .int 2], .tup [.str a, .int 3, .int 4]]]), none, none, none] sd = .nx [some (.loc 1), some ST, some (.str a), some (.str b), some (.lst [D.lst [.tup [.str a, .int 0, .int 0], .tup [.str b, .int 1, .int 2879]], D.lst [.tup [.str a, .int 0, .int 5], .tup [.str b, .int 6, .int 6], .tup [.str a, .int 7, .int 7]], D.lst [.tup [.str a, .int 0, .int 0], .tup [.str b, .int 2879, .int 2879]], D.lst [.tup [.str a, .int 0, .int 9], .tup [.str b, .int 10, .int 19], .tup [.str a, .int 20, .int 29], .tup [.str b, .int 30, .int 39], .tup [.str a, .int 40, .int 49], .tup [.str b, .int 50, .int 59]]]), some (D.lst [.tup [.str a, .int 0, .int 9], .tup [.str b, .int 10, .int 19], .tup [.str a, .int 20, .int 29], .tup [.str b, .int 30, .int 39], .tup [.str a, .int 40, .int 49], .tup [.str b, .int 50, .int 59], .tup [.str a, .int 60, .int 69]]), some (D.lst [.lst [.tup [.str a, .int 0, .int 9], .tup [.str b, .int 10, .int 19], .tup [.str a, .int 20, .int 29], .tup [.str b, .int 30, .int 39], .tup [.str a, .int 40, .int 49], .tup [.str b, .int 50, .int 59], .tup [.str a, .int 60, .int 69]], .lst [.tup [.str a, .int 0, .int 9]], .lst [.tup [.str a, .int 0, .int 0], .tup [.str b, .int 0, .int 1]], .lst [.tup [.str a, .int 5, .int 4], .tup [.str b, .int 6, .int 6]], .lst [.tup [.str a, .int 1, .int 2], .tup [.str a, .int 3, .int 4]]]), some (.int ((3 : Nat) : Int)), some (D.lst [.tup [.str a, .int 0, .int 9], .tup [.str b, .int 10, .int 19], .tup [.str a, .int 20, .int 29], .tup [.str b, .int 30, .int 39], .tup [.str a, .int 40, .int 49], .tup [.str b, .int 50, .int 59]]), some (.str (gn 3))] s4 := by
    have it : itEnum (aCons (dVar 4) aNil) [some (.loc 1), some ST, some (.str a), some (.str b), some (.lst [D.lst [.tup [.str a, .int 0, .int 0], .tup [.str b, .int 1, .int 2879]], D.lst [.tup [.str a, .int 0, .int 5], .tup [.str b, .int 6, .int 6], .tup [.str a, .int 7, .int 7]], D.lst [.tup [.str a, .int 0, .int 0], .tup [.str b, .int 2879, .int 2879]], D.lst [.tup [.str a, .int 0, .int 9], .tup [.str b, .int 10, .int 19], .tup [.str a, .int 20, .int 29], .tup [.str b, .int 30, .int 39], .tup [.str a, .int 40, .int 49], .tup [.str b, .int 50, .int 59]]]), some (D.lst [.tup [.str a, .int 0, .int 9], .tup [.str b, .int 10, .int 19], .tup [.str a, .int 20, .int 29], .tup [.str b, .int 30, .int 39], .tup [.str a, .int 40, .int 49], .tup [.str b, .int 50, .int 59], .tup [.str a, .int 60, .int 69]]), some (D.lst [.lst [.tup [.str a, .int 0, .int 9], .tup [.str b, .int 10, .int 19], .tup [.str a, .int 20, .int 29], .tup [.str b, .int 30, .int 39], .tup [.str a, .int 40, .int 49], .tup [.str b, .int 50, .int 59], .tup [.str a, .int 60, .int 69]], .lst [.tup [.str a, .int 0, .int 9]], .lst [.tup [.str a, .int 0, .int 0], .tup [.str b, .int 0, .int 1]], .lst [.tup [.str a, .int 5, .int 4], .tup [.str b, .int 6, .int 6]], .lst [.tup [.str a, .int 1, .int 2], .tup [.str a, .int 3, .int 4]]]), none, none, none] sd = .ok (enD 0 [D.lst [.tup [.str a, .int 0, .int 0], .tup [.str b, .int 1, .int 2879]], D.lst [.tup [.str a, .int 0, .int 5], .tup [.str b, .int 6, .int 6], .tup [.str a, .int 7, .int 7]], D.lst [.tup [.str a, .int 0, .int 0], .tup [.str b, .int 2879, .int 2879]], D.lst [.tup [.str a, .int 0, .int 9], .tup [.str b, .int 10, .int 19], .tup [.str a, .int 20, .int 29], .tup [.str b, .int 30, .int 39], .tup [.str a, .int 40, .int 49], .tup [.str b, .int 50, .int 59]]]) sd := by
      generalize some (D.lst [.lst [.tup [.str a, .int 0, .int 9], .tup [.str b, .int 10, .int 19], .tup [.str a, .int 20, .int 29], .tup [.str b, .int 30, .int 39], .tup [.str a, .int 40, .int 49], .tup [.str b, .int 50, .int 59], .tup [.str a, .int 60, .int 69]], .lst [.tup [.str a, .int 0, .int 9]], .lst [.tup [.str a, .int 0, .int 0], .tup [.str b, .int 0, .int 1]], .lst [.tup [.str a, .int 5, .int 4], .tup [.str b, .int 6, .int 6]], .lst [.tup [.str a, .int 1, .int 2], .tup [.str a, .int 3, .int 4]]]) = q
      rw [itEnum_eq, aCons_eq, dVar_eq]
      rfl
    rw [sFor_eq, it, out_ok]
    show forL _ _ [.tup [.int ((0 : Nat) : Int), D.lst [.tup [.str a, .int 0, .int 0], .tup [.str b, .int 1, .int 2879]]], .tup [.int ((1 : Nat) : Int), D.lst [.tup [.str a, .int 0, .int 5], .tup [.str b, .int 6, .int 6], .tup [.str a, .int 7, .int 7]]], .tup [.int ((2 : Nat) : Int), D.lst [.tup [.str a, .int 0, .int 0], .tup [.str b, .int 2879, .int 2879]]], .tup [.int ((3 : Nat) : Int), D.lst [.tup [.str a, .int 0, .int 9], .tup [.str b, .int 10, .int 19], .tup [.str a, .int 20, .int 29], .tup [.str b, .int 30, .int 39], .tup [.str a, .int 40, .int 49], .tup [.str b, .int 50, .int 59]]]] _ _ = _
    rw [forL_next rfl e1]
    rw [forL_next rfl e2]
    rw [forL_next rfl e3]
    rw [forL_next rfl e4]
    rfl
  have bm := bad_fresh (j := j) (i := 4)
  rw [← n4] at bm
  have nbad : NmOk [98, 97, 100] := nmB_iff.mp (by rfl)
  have bads : ∀ d ∈ [D.lst [.tup [.str a, .int 0, .int 9], .tup [.str b, .int 10, .int 19], .tup [.str a, .int 20, .int 29], .tup [.str b, .int 30, .int 39], .tup [.str a, .int 40, .int 49], .tup [.str b, .int 50, .int 59], .tup [.str a, .int 60, .int 69]], D.lst [.tup [.str a, .int 0, .int 9]], D.lst [.tup [.str a, .int 0, .int 0], .tup [.str b, .int 0, .int 1]], D.lst [.tup [.str a, .int 5, .int 4], .tup [.str b, .int 6, .int 6]], D.lst [.tup [.str a, .int 1, .int 2], .tup [.str a, .int 3, .int 4]]], f__law_tried [.loc 1, .tup [.str [98, 97, 100], .str wSome, d]] s4 = .ok (.str [99, 97, 108, 108, 115]) s4 := by
    intro d hd
    simp only [List.mem_cons, List.not_mem_nil, or_false] at hd
    rcases hd with rfl | rfl | rfl | rfl | rfl
    · exact bad1 w.r P4 Q4 nbad bm (cs := [(a, 0, 9), (b, 10, 19), (a, 20, 29), (b, 30, 39), (a, 40, 49), (b, 50, 59), (a, 60, 69)]) (okab _ (by simp)) (by simp) (.inl (by rfl))
    · exact bad1 w.r P4 Q4 nbad bm (cs := [(a, 0, 9)]) (okab _ (by simp)) (by simp) (.inl (by rfl))
    · exact bad1 w.r P4 Q4 nbad bm (cs := [(a, 0, 0), (b, 0, 1)]) (okab _ (by simp)) (by simp) (.inr (by rw [dueB hn ha (by decide) (by decide), if_neg (by simp [bump]), dueB hn hb (by decide) (by decide), if_pos (by simp [bump])]))
    · exact bad1 w.r P4 Q4 nbad bm (cs := [(a, 5, 4), (b, 6, 6)]) (okab _ (by simp)) (by simp) (.inr (by rw [dueB hn ha (by decide) (by decide), if_pos (by simp [bump])]))
    · exact bad1 w.r P4 Q4 nbad bm (cs := [(a, 1, 2), (a, 3, 4)]) (okab _ (by simp)) (by simp) (.inr (by rw [dueB hn ha (by decide) (by decide), if_neg (by simp [bump]), dueB hn ha (by decide) (by decide), if_pos (by simp [bump])]))
  have S9 : ∃ d', (sRet (dOp oEq (dLc (itAny (dVar 6)) (tgN 8) cYes (dCall f__law_tried (aCons (dVar 0) (aCons (dTup (aCons (dC (.str [98, 97, 100])) (aCons (dC (.str [115, 111, 109, 101])) (aCons (dVar 8) aNil)))) aNil))) [8]) (dOp oMulA (dLst (aCons (dC (.str [99, 97, 108, 108, 115])) aNil)) (dC (.int 5))))) [some (.loc 1), some ST, some (.str a), some (.str b), some (.lst [D.lst [.tup [.str a, .int 0, .int 0], .tup [.str b, .int 1, .int 2879]], D.lst [.tup [.str a, .int 0, .int 5], .tup [.str b, .int 6, .int 6], .tup [.str a, .int 7, .int 7]], D.lst [.tup [.str a, .int 0, .int 0], .tup [.str b, .int 2879, .int 2879]], D.lst [.tup [.str a, .int 0, .int 9], .tup [.str b, .int 10, .int 19], .tup [.str a, .int 20, .int 29], .tup [.str b, .int 30, .int 39], .tup [.str a, .int 40, .int 49], .tup [.str b, .int 50, .int 59]]]), some (D.lst [.tup [.str a, .int 0, .int 9], .tup [.str b, .int 10, .int 19], .tup [.str a, .int 20, .int 29], .tup [.str b, .int 30, .int 39], .tup [.str a, .int 40, .int 49], .tup [.str b, .int 50, .int 59], .tup [.str a, .int 60, .int 69]]), some (D.lst [.lst [.tup [.str a, .int 0, .int 9], .tup [.str b, .int 10, .int 19], .tup [.str a, .int 20, .int 29], .tup [.str b, .int 30, .int 39], .tup [.str a, .int 40, .int 49], .tup [.str b, .int 50, .int 59], .tup [.str a, .int 60, .int 69]], .lst [.tup [.str a, .int 0, .int 9]], .lst [.tup [.str a, .int 0, .int 0], .tup [.str b, .int 0, .int 1]], .lst [.tup [.str a, .int 5, .int 4], .tup [.str b, .int 6, .int 6]], .lst [.tup [.str a, .int 1, .int 2], .tup [.str a, .int 3, .int 4]]]), some (.int ((3 : Nat) : Int)), some (D.lst [.tup [.str a, .int 0, .int 9], .tup [.str b, .int 10, .int 19], .tup [.str a, .int 20, .int 29], .tup [.str b, .int 30, .int 39], .tup [.str a, .int 40, .int 49], .tup [.str b, .int 50, .int 59]]), some (.str (gn 3))] s4 = .rt d' s4 ∧ d' = .bl true := by
    refine ⟨_, ?_, rfl⟩
    have hlen : ([D.lst [.tup [.str a, .int 0, .int 9], .tup [.str b, .int 10, .int 19], .tup [.str a, .int 20, .int 29], .tup [.str b, .int 30, .int 39], .tup [.str a, .int 40, .int 49], .tup [.str b, .int 50, .int 59], .tup [.str a, .int 60, .int 69]], D.lst [.tup [.str a, .int 0, .int 9]], D.lst [.tup [.str a, .int 0, .int 0], .tup [.str b, .int 0, .int 1]], D.lst [.tup [.str a, .int 5, .int 4], .tup [.str b, .int 6, .int 6]], D.lst [.tup [.str a, .int 1, .int 2], .tup [.str a, .int 3, .int 4]]]).length = 5 := rfl
    have hbb : D.lst [D.lst [.tup [.str a, .int 0, .int 0], .tup [.str b, .int 1, .int 2879]], D.lst [.tup [.str a, .int 0, .int 5], .tup [.str b, .int 6, .int 6], .tup [.str a, .int 7, .int 7]], D.lst [.tup [.str a, .int 0, .int 0], .tup [.str b, .int 2879, .int 2879]], D.lst [.tup [.str a, .int 0, .int 9], .tup [.str b, .int 10, .int 19], .tup [.str a, .int 20, .int 29], .tup [.str b, .int 30, .int 39], .tup [.str a, .int 40, .int 49], .tup [.str b, .int 50, .int 59]]] = D.lst [D.lst [.tup [.str a, .int 0, .int 0], .tup [.str b, .int 1, .int 2879]], D.lst [.tup [.str a, .int 0, .int 5], .tup [.str b, .int 6, .int 6], .tup [.str a, .int 7, .int 7]], D.lst [.tup [.str a, .int 0, .int 0], .tup [.str b, .int 2879, .int 2879]], D.lst [.tup [.str a, .int 0, .int 9], .tup [.str b, .int 10, .int 19], .tup [.str a, .int 20, .int 29], .tup [.str b, .int 30, .int 39], .tup [.str a, .int 40, .int 49], .tup [.str b, .int 50, .int 59]]] := rfl
    generalize [D.lst [.tup [.str a, .int 0, .int 9], .tup [.str b, .int 10, .int 19], .tup [.str a, .int 20, .int 29], .tup [.str b, .int 30, .int 39], .tup [.str a, .int 40, .int 49], .tup [.str b, .int 50, .int 59], .tup [.str a, .int 60, .int 69]], D.lst [.tup [.str a, .int 0, .int 9]], D.lst [.tup [.str a, .int 0, .int 0], .tup [.str b, .int 0, .int 1]], D.lst [.tup [.str a, .int 5, .int 4], .tup [.str b, .int 6, .int 6]], D.lst [.tup [.str a, .int 1, .int 2], .tup [.str a, .int 3, .int 4]]] = bl at bads hlen ⊢
    generalize D.lst [D.lst [.tup [.str a, .int 0, .int 0], .tup [.str b, .int 1, .int 2879]], D.lst [.tup [.str a, .int 0, .int 5], .tup [.str b, .int 6, .int 6], .tup [.str a, .int 7, .int 7]], D.lst [.tup [.str a, .int 0, .int 0], .tup [.str b, .int 2879, .int 2879]], D.lst [.tup [.str a, .int 0, .int 9], .tup [.str b, .int 10, .int 19], .tup [.str a, .int 20, .int 29], .tup [.str b, .int 30, .int 39], .tup [.str a, .int 40, .int 49], .tup [.str b, .int 50, .int 59]]] = LL
    generalize D.lst [.tup [.str a, .int 0, .int 9], .tup [.str b, .int 10, .int 19], .tup [.str a, .int 20, .int 29], .tup [.str b, .int 30, .int 39], .tup [.str a, .int 40, .int 49], .tup [.str b, .int 50, .int 59], .tup [.str a, .int 60, .int 69]] = RW
    have l3 : 3 ≤ lim := by decide
    have c := lcL_map (s := s4) (δ := [some (.loc 1), some ST, some (.str a), some (.str b), some LL, some RW, some (.lst bl), some (.int ((3 : Nat) : Int)), none, some (.str (gn 3))]) (t := tgN 8) (e := dCall f__law_tried (aCons (dVar 0) (aCons (dTup (aCons (dC (.str [98, 97, 100])) (aCons (dC (.str [115, 111, 109, 101])) (aCons (dVar 8) aNil)))) aNil))) (fun _ => .str [99, 97, 108, 108, 115]) bl [] (by rw [hlen, lim_eq]; simp) (by
      intro d hd
      refine ⟨_, rfl, ?_⟩
      have := bads d hd
      generalize hg : D.tup [.str [98, 97, 100], .str wSome, d] = GG at this
      have bt : dTup (aCons (dC (.str [98, 97, 100])) (aCons (dC (.str [115, 111, 109, 101])) (aCons (dVar 8) aNil))) [some (.loc 1), some ST, some (.str a), some (.str b), some LL, some RW, some (.lst bl), some (.int ((3 : Nat) : Int)), some d, some (.str (gn 3))] s4 = .ok GG s4 := by
        rw [← hg]
        simp [l3]
      simp only [dCall_eq, aCons_eq, aNil_eq, dVar_eq, List.set, List.getElem?_cons_succ, List.getElem?_cons_zero, bind_ok, bt, this])
    rw [List.nil_append] at c
    have em : bl.map (fun _ => D.str [99, 97, 108, 108, 115]) = List.replicate 5 (.str [99, 97, 108, 108, 115]) := by
      rw [List.map_const', hlen]
    rw [em] at c
    have mu : oMulA (.lst [.str [99, 97, 108, 108, 115]]) (.int 5) s4 = .ok (.lst (List.replicate 5 (.str [99, 97, 108, 108, 115]))) s4 := by
      simp [lim_eq, List.replicate]
    have eq : oEq (.lst (List.replicate 5 (.str [99, 97, 108, 108, 115]))) (.lst (List.replicate 5 (.str [99, 97, 108, 108, 115]))) s4 = .ok (.bl true) s4 := by
      show oEqG false _ _ s4 = _
      rw [oEq_ll (by rfl) (by rfl)]
      rfl
    have l1 : ([D.str [99, 97, 108, 108, 115]] : List D).length ≤ lim := by decide
    simp only [sRet_eq, dOp_eq, dLc_eq, itAny_eq, dVar_eq, dLst_eq, dC_eq, aCons_eq, aNil_eq, List.getElem?_cons_succ, List.getElem?_cons_zero, bind_ok, wipeE_cons, wipeE_nil, List.set]
    rw [c]
    simp only [bind_ok]
    rw [if_pos l1]
    simp only [bind_ok, mu, eq, out_ok]
  obtain ⟨d', S9, rfl⟩ := S9
  have key : g__law_borders [some (.loc 1), some ST, none, none, none, none, none, none, none, none] s = .rt (.bl true) s4 := by
    unfold g__law_borders
    exact seq_step S1 (seq_step S2 (seq_step S3 (seq_step (S4 _) (seq_step S5 (seq_step S6 (seq_step (S7 _) (seq_step S8 S9)))))))
  show ∃ s', finO s.length (g__law_borders [some (.loc 1), some ST, none, none, none, none, none, none, none, none] s) = .ok (.bl true) s'
  rw [key]
  exact cut_bl
end Rb
namespace Rb
open PySem PySem.Spec L2 Mp
/-! ### the law -/
theorem Nt.put2 {A A' R B : Ps} {s : Sto} (h : Nt A R B s) : Nt A' R B (s.set 2 (.dct (ky A') (vl A'))) := by
  have l := h.len
  exact ⟨by rw [List.getElem?_set_ne (by omega)]; exact h.z, by rw [List.getElem?_set_ne (by omega)]; exact h.o, by rw [List.getElem?_set_self (by omega)], by rw [List.getElem?_set_ne (by omega)]; exact h.r, by rw [List.getElem?_set_ne (by omega)]; exact h.b⟩
theorem Nt.put4 {A R R' B : Ps} {s : Sto} (h : Nt A R B s) : Nt A R' B (s.set 4 (.dct (ky R') (vl R'))) := by
  have l := h.len
  exact ⟨by rw [List.getElem?_set_ne (by omega)]; exact h.z, by rw [List.getElem?_set_ne (by omega)]; exact h.o, by rw [List.getElem?_set_ne (by omega)]; exact h.a, by rw [List.getElem?_set_self (by omega)], by rw [List.getElem?_set_ne (by omega)]; exact h.b⟩
theorem sb_add {s : Sto} {i : Nat} {P : Ps} {p : List Nat × D} (hs : Sb s) (hi : s[i]? = some (.dct (ky P) (vl P))) (hp : below s.length p.2 = true) : Sb (s.set i (.dct (ky (P ++ [p])) (vl (P ++ [p])))) := by
  refine sb_set hs ?_
  have b : belows s.length (vl P) = true := List.all_eq_true.mp hs _ (List.mem_of_getElem? hi)
  show belows s.length (vl (P ++ [p])) = true
  have e : vl (P ++ [p]) = vl P ++ [p.2] := by simp [vl]
  rw [e]
  refine belows_app b ?_
  show (below s.length p.2 && true) = true
  rw [hp]
  rfl
section
variable {o0 o1 o2 o5 o6 o7 o8 o9 o10 o11 o12 o13 o14 : Option D}
theorem stop_loop : ∀ (zs : List (List Nat)) (i : Nat) (A : Ps) (s : Sto) (o4 o5 : Option D), Nt A [] [] s → Sb s → s.length = 7 → A.length = i → (A.map (·.1) ++ zs).Nodup → (∀ z ∈ zs, NmOk z) → i + zs.length ≤ 5 →
    ∃ A' s' p4 p5, Nt A' [] [] s' ∧ Sb s' ∧ s'.length = 7 ∧ A'.map (·.1) = A.map (·.1) ++ zs ∧ forL (tgT [(tgN 4), (tgN 5)]) g_law_b1 (enD i (zs.map D.str)) [o0, o1, o2, some (.loc 1), o4, o5, o6, o7, o8, o9, o10, o11, o12, o13, o14] s = .nx [o0, o1, o2, some (.loc 1), p4, p5, o6, o7, o8, o9, o10, o11, o12, o13, o14] s'
  | [], i, A, s, o4, o5, h, hs, hl, _, _, _, _ => ⟨A, s, o4, o5, h, hs, hl, by rw [List.append_nil], rfl⟩
  | z :: zs, i, A, s, o4, o5, h, hs, hl, hA, nd, ok, hi => by
    rw [List.length_cons] at hi
    have hz := ok z List.mem_cons_self
    have hf : z ∉ A.map (·.1) := fun hm => (List.nodup_append.mp nd).2.2 z hm z List.mem_cons_self rfl
    have e := p_addstop (a := 1 + (i : Int)) (b := (i : Int)) h hz hf (by omega) (by omega) (by omega)
    obtain ⟨A', s', p4, p5, q1, q2, q3, q4, q5⟩ := stop_loop zs (i + 1) (A ++ [(z, .tup [.int (1 + (i : Int)), .int (i : Int)])]) (s.set 2 (.dct (ky (A ++ [(z, .tup [.int (1 + (i : Int)), .int (i : Int)])])) (vl (A ++ [(z, .tup [.int (1 + (i : Int)), .int (i : Int)])])))) (some (.int (i : Int))) (some (.str z)) h.put2 (sb_add hs h.a (by rfl)) (by rw [List.length_set]; exact hl) (by rw [List.length_append, hA]; rfl) (by rw [List.map_append, List.append_assoc]; exact nd) (fun y hy => ok y (List.mem_cons_of_mem _ hy)) (by omega)
    refine ⟨A', s', p4, p5, q1, q2, q3, by rw [q4, List.map_append, List.append_assoc]; rfl, ?_⟩
    have ob := h.o
    generalize s.set 2 (.dct (ky (A ++ [(z, .tup [.int (1 + (i : Int)), .int (i : Int)])])) (vl (A ++ [(z, .tup [.int (1 + (i : Int)), .int (i : Int)])]))) = s2 at e q5
    rw [List.map_cons]
    show forL _ _ (.tup [.int (i : Int), .str z] :: enD (i + 1) (zs.map D.str)) _ _ = _
    rw [forL_next (δ1 := [o0, o1, o2, some (.loc 1), some (.int (i : Int)), some (.str z), o6, o7, o8, o9, o10, o11, o12, o13, o14]) (δ2 := [o0, o1, o2, some (.loc 1), some (.int (i : Int)), some (.str z), o6, o7, o8, o9, o10, o11, o12, o13, o14]) (s2 := s2) rfl (by
      unfold g_law_b1
      simp [dMeth_eq, List.lookup, ob, e])]
    exact q5
theorem turns_loop {A R : Ps} {names : List (List Nat)} (w : Wd A R names) {ST : D} (eS : ST = .lst (names.map D.str)) : ∀ (cells : List Int) (k : Nat) (B : Ps) (s : Sto) (o4 o7 o8 o9 o10 o11 o12 o13 o14 : Option D), LS A R B s → B.map (·.1) = tns k → k + cells.length ≤ 5 →
    ∃ B' s' p4 p7 p8 p9 p10 p11 p12 p13 p14, LS A R B' s' ∧ B'.map (·.1) = tns (k + cells.length) ∧ forL (tgT [(tgN 4), (tgN 7)]) g_law_b3 (enD k (cells.map D.int)) [o0, o1, some ST, some (.loc 1), o4, o5, some (.loc 7), o7, o8, o9, o10, o11, o12, o13, o14] s = .nx [o0, o1, some ST, some (.loc 1), p4, o5, some (.loc 7), p7, p8, p9, p10, p11, p12, p13, p14] s'
  | [], k, B, s, o4, o7, o8, o9, o10, o11, o12, o13, o14, h, hB, _ => ⟨B, s, _, _, _, _, _, _, _, _, _, h, hB, rfl⟩
  | c :: cells, k, B, s, o4, o7, o8, o9, o10, o11, o12, o13, o14, h, hB, hl => by
    rw [List.length_cons] at hl
    obtain ⟨B1, s1, a8, a9, a10, a11, a12, a13, a14, h1, hB1, e1⟩ := turn (cell := c) (o0 := o0) (o1 := o1) (o5 := o5) (o8 := o8) (o9 := o9) (o10 := o10) (o11 := o11) (o12 := o12) (o13 := o13) (o14 := o14) w h hB (by omega) eS
    obtain ⟨B', s', p4, p7, p8, p9, p10, p11, p12, p13, p14, h2, hB2, e2⟩ := turns_loop w eS cells (k + 1) B1 s1 (some (.int (k : Int))) (some (.int c)) a8 a9 a10 a11 a12 a13 a14 h1 hB1 (by omega)
    refine ⟨B', s', p4, p7, p8, p9, p10, p11, p12, p13, p14, h2, by rw [hB2, List.length_cons]; congr 1; omega, ?_⟩
    rw [List.map_cons]
    show forL _ _ (.tup [.int (k : Int), .int c] :: enD (k + 1) (cells.map D.int)) _ _ = _
    rw [forL_next rfl e1]
    exact e2
end
theorem cut_five {ns : List Int} : cutL (ns.map D.int) (some 1) (some 6) = (cutL ns (some 1) (some 6)).map D.int ∧ (cutL ns (some 1) (some 6)).length ≤ 5 := by
  constructor
  · unfold cutL
    rw [List.length_map, List.map_take, List.map_drop]
  · unfold cutL
    rw [List.length_take, List.length_drop]
    have e1 : HT.sIx ns.length 0 (some 1) = min 1 ns.length := HT.sIx_nat _ _ 1
    have e6 : HT.sIx ns.length ns.length (some 6) = min 6 ns.length := HT.sIx_nat _ _ 6
    rw [e1, e6]
    omega
theorem pure_law (ns : List Int) (h : ns.length ≤ 63) : ∃ s', f_law [.scr ns] (tbls 1) = .ok (.bl true) s' := by
  suffices key : ∃ s', g_law [some (.scr ns), none, none, none, none, none, none, none, none, none, none, none, none, none, none] (tbls 1) = .rt (.bl true) s' by
    obtain ⟨s', key⟩ := key
    show ∃ s', finO (tbls 1).length (g_law [some (.scr ns), none, none, none, none, none, none, none, none, none, none, none, none, none, none] (tbls 1)) = .ok (.bl true) s'
    rw [key]
    exact cut_bl
  obtain ⟨v, ev⟩ := p_cell (ns := ns) (k := 0) (s := tbls 1) (by omega)
  have em := p_mixed (c := v) (k := 0) (s := tbls 1) (by omega)
  have x0 := (mx_rng (c := v) (k := 0)).1
  generalize mx v 0 = x at *
  have slc : ∀ s, oSl (.scr ns) (some 1) (some 6) s = .ok (.lst (cutL (ns.map D.int) (some 1) (some 6))) s := fun s => rfl
  obtain ⟨cf, cl5⟩ := cut_five (ns := ns)
  rw [cf] at slc
  generalize cutL ns (some 1) (some 6) = cells at *
  have S1 : sSet 1 (dCall f__law_mixed (aCons (dCall f__law_cell_at (aCons (dVar 0) (aCons (dC (.int 0)) aNil))) (aCons (dC (.int 0)) aNil))) [some (.scr ns), none, none, none, none, none, none, none, none, none, none, none, none, none, none] (tbls 1) = .nx [some (.scr ns), some (.int x), none, none, none, none, none, none, none, none, none, none, none, none, none] (tbls 1) := by
    generalize tbls 1 = s at *
    simp [ev, em]
  generalize D.scr ns = SC at S1 slc
  obtain ⟨n, hn, hn1⟩ : ∃ n : Nat, 3 + x / 5 % 3 = (n : Int) ∧ (3 ≤ n ∧ n ≤ 5) := ⟨(3 + x / 5 % 3).toNat, by omega, by omega⟩
  obtain ⟨names, eN⟩ : ∃ names, names = (List.range n).map fun (i : Nat) => nmK x (i : Int) := ⟨_, rfl⟩
  have nl : names.length = n := by rw [eN]; simp
  have nok : ∀ z ∈ names, NmOk z := fun z hz => by
    rw [eN] at hz
    obtain ⟨i, _, rfl⟩ := List.mem_map.mp hz
    exact nmK_ok x0
  have nnd : names.Nodup := by
    rw [eN]
    refine List.pairwise_map.mpr ?_
    refine List.Pairwise.imp_of_mem (fun {i j} hi hj hne e => ?_) (List.nodup_range (n := n))
    have hi := List.mem_range.mp hi
    have hj := List.mem_range.mp hj
    exact hne (nmK_inj (by omega) (by omega) e)
  have S2 : sSet 2 (dLc (itR1 (aCons (dOp oAdd (dC (.int 3)) (dOp oMod (dOp oDiv (dVar 1) (dC (.int 5))) (dC (.int 3)))) aNil)) (tgN 4) cYes (dCall f__law_name (aCons (dVar 1) (aCons (dVar 4) aNil))) [4]) [some SC, some (.int x), none, none, none, none, none, none, none, none, none, none, none, none, none] (tbls 1) = .nx [some SC, some (.int x), some (.lst (names.map D.str)), none, none, none, none, none, none, none, none, none, none, none, none] (tbls 1) := by
    generalize tbls 1 = s
    have sm : small62 (n : Int) = true := by unfold small62; simp; omega
    have ha : aCons (dOp oAdd (dC (.int 3)) (dOp oMod (dOp oDiv (dVar 1) (dC (.int 5))) (dC (.int 3)))) aNil [some SC, some (.int x), none, none, none, none, none, none, none, none, none, none, none, none, none] s = .ok [.int (n : Int)] s := by simp [hn]
    have it : itR1 (aCons (dOp oAdd (dC (.int 3)) (dOp oMod (dOp oDiv (dVar 1) (dC (.int 5))) (dC (.int 3)))) aNil) [some SC, some (.int x), none, none, none, none, none, none, none, none, none, none, none, none, none] s = .ok (intsD 0 n) s := by
      rw [itR1_eq, ha, bind_ok]
      dsimp only
      rw [if_pos sm, Int.toNat_natCast]
    have c := lcL_map (s := s) (δ := [some SC, some (.int x), none, none, none, none, none, none, none, none, none, none, none, none, none]) (t := tgN 4) (e := dCall f__law_name (aCons (dVar 1) (aCons (dVar 4) aNil))) (fun d => match d with | .int k => .str (nmK x k) | _ => .non) (intsD 0 n) [] (by rw [lim_eq]; simp [intsD]; omega) (by
      intro d hd
      obtain ⟨i, hi, rfl⟩ := mem_ints hd
      refine ⟨_, rfl, ?_⟩
      have := p_name (x := x) (k := 0 + (i : Int)) (s := s) x0 (by omega)
      simp only [dCall_eq, aCons_eq, aNil_eq, dVar_eq, List.set, List.getElem?_cons_succ, List.getElem?_cons_zero, bind_ok, this])
    have e : (intsD 0 n).map (fun d => match d with | .int k => D.str (nmK x k) | _ => .non) = names.map D.str := by
      rw [eN, intsD_map, List.map_map]
      refine List.map_congr_left fun i _ => ?_
      simp
    rw [List.nil_append, e] at c
    rw [sSet_eq, dLc_eq, it]
    simp only [bind_ok, wipeE_cons, wipeE_nil, List.set]
    rw [c]
    rfl
  have S3 : sSet 3 (dCall (mkO 20 f_Net___init__) aNil) [some SC, some (.int x), some (.lst (names.map D.str)), none, none, none, none, none, none, none, none, none, none, none, none] (tbls 1) = .nx [some SC, some (.int x), some (.lst (names.map D.str)), some (.loc 1), none, none, none, none, none, none, none, none, none, none, none] (NetS [] [] []) := by
    have pi := p_init
    generalize tbls 1 = s at *
    generalize mkO 20 f_Net___init__ = F at *
    simp [pi]
  obtain ⟨A, sA, p4, p5, hA, bA, lA, mA, eA⟩ := stop_loop (o0 := some SC) (o1 := some (.int x)) (o2 := some (.lst (names.map D.str))) (o6 := none) (o7 := none) (o8 := none) (o9 := none) (o10 := none) (o11 := none) (o12 := none) (o13 := none) (o14 := none) names 0 [] (NetS [] [] []) none none nt0 (by rfl) rfl rfl nnd nok (by omega)
  have mA : A.map (·.1) = names := mA
  have S4 : sFor (itEnum (aCons (dVar 2) aNil)) (tgT [(tgN 4), (tgN 5)]) g_law_b1 [some SC, some (.int x), some (.lst (names.map D.str)), some (.loc 1), none, none, none, none, none, none, none, none, none, none, none] (NetS [] [] []) = .nx [some SC, some (.int x), some (.lst (names.map D.str)), some (.loc 1), p4, p5, none, none, none, none, none, none, none, none, none] sA := by
    have it : itEnum (aCons (dVar 2) aNil) [some SC, some (.int x), some (.lst (names.map D.str)), some (.loc 1), none, none, none, none, none, none, none, none, none, none, none] (NetS [] [] []) = .ok (enD 0 (names.map D.str)) (NetS [] [] []) := by
      rw [itEnum_eq, aCons_eq, dVar_eq]
      rfl
    rw [sFor_eq, it, out_ok]
    exact eA
  have ar1 := p_addrule (d := .obj 18 [] []) (z := wDaily) hA (nmB_iff.mp (by rfl)) (by simp) (fun s => iso_rule) (by decide)
  have hR1 : Nt A [(wDaily, .obj 18 [] [])] [] (sA.set 4 (.dct (ky ([] ++ [(wDaily, D.obj 18 [] [])])) (vl ([] ++ [(wDaily, D.obj 18 [] [])])))) := hA.put4
  have bR1 := sb_add (p := (wDaily, D.obj 18 [] [])) bA hA.r rfl
  have lR1 : (sA.set 4 (.dct (ky ([] ++ [(wDaily, D.obj 18 [] [])])) (vl ([] ++ [(wDaily, D.obj 18 [] [])])))).length = 7 := by rw [List.length_set]; exact lA
  generalize sA.set 4 (.dct (ky ([] ++ [(wDaily, D.obj 18 [] [])])) (vl ([] ++ [(wDaily, D.obj 18 [] [])]))) = sR1 at *
  have S5 : sDrop (dMeth 6 [(20, f_Net_add_rule)] (dVar 3) (aCons (dC (.str [100, 97, 105, 108, 121])) (aCons (dC (.obj 18 [] [])) aNil))) [some SC, some (.int x), some (.lst (names.map D.str)), some (.loc 1), p4, p5, none, none, none, none, none, none, none, none, none] sA = .nx [some SC, some (.int x), some (.lst (names.map D.str)), some (.loc 1), p4, p5, none, none, none, none, none, none, none, none, none] sR1 := by
    have ob := hA.o
    generalize D.lst (names.map D.str) = ST
    simp [dMeth_eq, List.lookup, ob, ar1]
  obtain ⟨bits, hbits, hb1⟩ : ∃ b : Int, x % 128 = b ∧ 0 ≤ b ∧ b ≤ 127 := ⟨_, rfl, by omega, by omega⟩
  have wk := p_week (i := bits) (s := sR1) hb1 bR1
  have ar2 := p_addrule (d := .obj 19 [0] [.int bits]) (z := wSome) hR1 (nmB_iff.mp (by rfl)) (by decide) (fun s => iso_week) (by decide)
  have hR2 : Nt A [(wDaily, .obj 18 [] []), (wSome, .obj 19 [0] [.int bits])] [] (sR1.set 4 (.dct (ky ([(wDaily, D.obj 18 [] [])] ++ [(wSome, D.obj 19 [0] [.int bits])])) (vl ([(wDaily, D.obj 18 [] [])] ++ [(wSome, D.obj 19 [0] [.int bits])])))) := hR1.put4
  have bR2 := sb_add (p := (wSome, D.obj 19 [0] [.int bits])) bR1 hR1.r rfl
  have lR2 : (sR1.set 4 (.dct (ky ([(wDaily, D.obj 18 [] [])] ++ [(wSome, D.obj 19 [0] [.int bits])])) (vl ([(wDaily, D.obj 18 [] [])] ++ [(wSome, D.obj 19 [0] [.int bits])])))).length = 7 := by rw [List.length_set]; exact lR1
  generalize sR1.set 4 (.dct (ky ([(wDaily, D.obj 18 [] [])] ++ [(wSome, D.obj 19 [0] [.int bits])])) (vl ([(wDaily, D.obj 18 [] [])] ++ [(wSome, D.obj 19 [0] [.int bits])]))) = sR2 at *
  have S6 : sDrop (dMeth 6 [(20, f_Net_add_rule)] (dVar 3) (aCons (dC (.str [115, 111, 109, 101])) (aCons (dCall (mkOF 19 f_Week___init__) (aCons (dOp oMod (dVar 1) (dC (.int 128))) aNil)) aNil))) [some SC, some (.int x), some (.lst (names.map D.str)), some (.loc 1), p4, p5, none, none, none, none, none, none, none, none, none] sR1 = .nx [some SC, some (.int x), some (.lst (names.map D.str)), some (.loc 1), p4, p5, none, none, none, none, none, none, none, none, none] sR2 := by
    have ob := hR1.o
    generalize D.lst (names.map D.str) = ST
    generalize mkOF 19 f_Week___init__ = F at *
    simp [dMeth_eq, List.lookup, ob, hbits, wk, ar2]
  have w : Wd A [(wDaily, .obj 18 [] []), (wSome, .obj 19 [0] [.int bits])] names := ⟨mA, nok, nnd, by omega, rfl⟩
  generalize [(wDaily, D.obj 18 [] []), (wSome, .obj 19 [0] [.int bits])] = R at *
  obtain ⟨cs, hcl, ⟨m, hm, hRi⟩, ec⟩ := p_calls (x := x) (M := 2) x0 nnd (by omega) (by omega)
  have ec : f__law_calls [.int x, .lst (names.map D.str), .int 2] sR2 = .ok (.lst (cs.map cD)) sR2 := ec sR2 bR2
  have okc := rise_ok hRi nok
  have csC := cs_cD okc
  have tok : NmOk wThere := nmB_iff.mp (by rfl)
  have du := w.due (B := []) (z := wThere) (ru := wDaily) tok (by simp) (.inl rfl) (by omega) hm hRi
  have at' := p_addtrip hR2 (n := .str wThere) (r := .str wDaily) (c := .lst (cs.map cD)) (at_str tok) (Rt.at (.inl ⟨wDaily, rfl, by decide, rfl⟩)) csC (fun _ => by decide) (c' := .lst (cs.map cD)) (.inr (.inl ⟨rfl, trivial⟩))
  rw [du] at at'
  have at2 : f_Net_add_trip [.loc 1, .str wThere, .str wDaily, .lst (cs.map cD)] sR2 = .ok .non (sR2.set 6 (.dct (ky (addB [] (.str wThere) (.str wDaily) (.lst (cs.map cD)))) (vl (addB [] (.str wThere) (.str wDaily) (.lst (cs.map cD)))))) := at'
  have hT : Nt A R (addB [] (.str wThere) (.str wDaily) (.lst (cs.map cD))) (sR2.set 6 (.dct (ky (addB [] (.str wThere) (.str wDaily) (.lst (cs.map cD)))) (vl (addB [] (.str wThere) (.str wDaily) (.lst (cs.map cD)))))) := hR2.put
  have bT := put_sb hR2 bR2 csC du
  have mB : (addB [] (.str wThere) (.str wDaily) (.lst (cs.map cD))).map (·.1) = tns 0 := rfl
  generalize addB [] (.str wThere) (.str wDaily) (.lst (cs.map cD)) = B at *
  have lT : (sR2.set 6 (.dct (ky B) (vl B))).length = 7 := by rw [List.length_set]; exact lR2
  generalize sR2.set 6 (.dct (ky B) (vl B)) = sT at *
  have S7 : sDrop (dMeth 6 [(20, f_Net_add_trip)] (dVar 3) (aCons (dC (.str [116, 104, 101, 114, 101])) (aCons (dC (.str [100, 97, 105, 108, 121])) (aCons (dCall f__law_calls (aCons (dVar 1) (aCons (dVar 2) (aCons (dC (.int 2)) aNil)))) aNil)))) [some SC, some (.int x), some (.lst (names.map D.str)), some (.loc 1), p4, p5, none, none, none, none, none, none, none, none, none] sR2 = .nx [some SC, some (.int x), some (.lst (names.map D.str)), some (.loc 1), p4, p5, none, none, none, none, none, none, none, none, none] sT := by
    have ob := hR2.o
    generalize D.lst (names.map D.str) = ST at *
    generalize D.lst (cs.map cD) = C at *
    generalize f__law_calls = F at *
    generalize f_Net_add_trip = F2 at *
    simp [dMeth_eq, List.lookup, ob, ec, at2]
  have hS : LS A R B (sT ++ [.lst [.str wThere]]) := by
    refine ⟨hT.app, ?_, sb_app bT rfl⟩
    rw [mB, List.getElem?_append_right (by omega), lT]
    rfl
  have S8 : sSet 6 (dLstC (aCons (dC (.str [116, 104, 101, 114, 101])) aNil)) [some SC, some (.int x), some (.lst (names.map D.str)), some (.loc 1), p4, p5, none, none, none, none, none, none, none, none, none] sT = .nx [some SC, some (.int x), some (.lst (names.map D.str)), some (.loc 1), p4, p5, some (.loc 7), none, none, none, none, none, none, none, none] (sT ++ [.lst [.str wThere]]) := by
    generalize D.lst (names.map D.str) = ST at *
    simp [lT, lim_eq]
  generalize sT ++ [Cell.lst [.str wThere]] = sS at *
  obtain ⟨B', s', q4, q7, q8, q9, q10, q11, q12, q13, q14, hL, mL, eL⟩ := turns_loop (o0 := some SC) (o1 := some (.int x)) (o5 := p5) w rfl cells 0 B sS p4 none none none none none none none none hS mB (by omega)
  have S9 : sFor (itEnum (aCons (dSl (dVar 0) (pSome (dC (.int 1))) (pSome (dC (.int 6)))) aNil)) (tgT [(tgN 4), (tgN 7)]) g_law_b3 [some SC, some (.int x), some (.lst (names.map D.str)), some (.loc 1), p4, p5, some (.loc 7), none, none, none, none, none, none, none, none] sS = .nx [some SC, some (.int x), some (.lst (names.map D.str)), some (.loc 1), q4, p5, some (.loc 7), q7, q8, q9, q10, q11, q12, q13, q14] s' := by
    have it : itEnum (aCons (dSl (dVar 0) (pSome (dC (.int 1))) (pSome (dC (.int 6)))) aNil) [some SC, some (.int x), some (.lst (names.map D.str)), some (.loc 1), p4, p5, some (.loc 7), none, none, none, none, none, none, none, none] sS = .ok (enD 0 (cells.map D.int)) sS := by
      have slc := slc sS
      rw [itEnum_eq]
      simp only [aCons_eq, aNil_eq, dSl_eq, pSome_eq, dVar_eq, dC_eq, List.getElem?_cons_zero, bind_ok, slc]
    rw [sFor_eq, it, out_ok]
    exact eL
  rw [Nat.zero_add] at mL
  have tt := hL.t
  rw [mL] at tt
  have l7 := (List.getElem?_eq_some_iff.mp tt).1
  have S10 : sFrz 6 [some SC, some (.int x), some (.lst (names.map D.str)), some (.loc 1), q4, p5, some (.loc 7), q7, q8, q9, q10, q11, q12, q13, q14] s' = .nx [some SC, some (.int x), some (.lst (names.map D.str)), some (.loc 1), q4, p5, some (.lst ((tns cells.length).map D.str)), q7, q8, q9, q10, q11, q12, q13, q14] (s'.set 7 .dead) := by
    unfold sFrz
    simp [frzD, tt]
  obtain ⟨s2, eb⟩ := p_borders w (hL.nt.far (m := 7) (c := .dead) (by omega)) (sb_set (i := 7) hL.sb rfl) cl5 mL
  have ln : ((tns cells.length).map D.str).length = cells.length + 1 := by rw [List.length_map, tns_len]
  refine ⟨s2, ?_⟩
  unfold g_law
  refine seq_step S1 (seq_step S2 (seq_step S3 (seq_step S4 (seq_step S5 (seq_step S6 (seq_step S7 (seq_step S8 (seq_step S9 (seq_step S10 ?_)))))))))
  generalize D.lst (names.map D.str) = ST at *
  generalize (tns cells.length).map D.str = TT at *
  generalize s'.set 7 .dead = s3 at *
  have c1 : ((cells.length : Int) + 1 < 7) := by omega
  have lt : (tst (dOp oLt (dBi bLen (aCons (dVar 6) aNil)) (dC (.int 7)))) [some SC, some (.int x), some ST, some (.loc 1), q4, p5, some (.lst TT), q7, q8, q9, q10, q11, q12, q13, q14] s3 = .ok true s3 := by
    simp [ln, c1]
  have dc : dCall f__law_borders (aCons (dVar 3) (aCons (dVar 2) aNil)) [some SC, some (.int x), some ST, some (.loc 1), q4, p5, some (.lst TT), q7, q8, q9, q10, q11, q12, q13, q14] s3 = .ok (.bl true) s2 := by
    generalize f__law_borders = F at *
    simp [eb]
  rw [sRet_eq, dIfE_eq, lt, bind_ok, if_pos rfl, dc, out_ok]
end Rb
namespace Rb
open PySem PySem.Spec L2 Mp
/-! ### the head -/
def d_is_among : He.DefD := ⟨("is_among", none), "is_among", "is_among", defArgs s_is_among, defBody s_is_among, defScope s_is_among, [], []⟩
def d_need : He.DefD := ⟨("need", none), "need", "need", defArgs s_need, defBody s_need, defScope s_need, [], []⟩
def d_Week___init__ : He.DefD := ⟨("Week", some "__init__"), "__init__", "Week.__init__", defArgs s_Week___init__, defBody s_Week___init__, defScope s_Week___init__, [], []⟩
def d_is_name : He.DefD := ⟨("is_name", none), "is_name", "is_name", defArgs s_is_name, defBody s_is_name, defScope s_is_name, [], []⟩
def d_need_fresh : He.DefD := ⟨("need_fresh", none), "need_fresh", "need_fresh", defArgs s_need_fresh, defBody s_need_fresh, defScope s_need_fresh, [], []⟩
def d_need_among : He.DefD := ⟨("need_among", none), "need_among", "need_among", defArgs s_need_among, defBody s_need_among, defScope s_need_among, [], []⟩
def d_need_room : He.DefD := ⟨("need_room", none), "need_room", "need_room", defArgs s_need_room, defBody s_need_room, defScope s_need_room, [], []⟩
def d_are_calls : He.DefD := ⟨("are_calls", none), "are_calls", "are_calls", defArgs s_are_calls, defBody s_are_calls, defScope s_are_calls, [], []⟩
def d_rises : He.DefD := ⟨("rises", none), "rises", "rises", defArgs s_rises, defBody s_rises, defScope s_rises, [], []⟩
def d_Net___init__ : He.DefD := ⟨("Net", some "__init__"), "__init__", "Net.__init__", defArgs s_Net___init__, defBody s_Net___init__, defScope s_Net___init__, [], []⟩
def d_Net_need_stop : He.DefD := ⟨("Net", some "need_stop"), "need_stop", "Net.need_stop", defArgs s_Net_need_stop, defBody s_Net_need_stop, defScope s_Net_need_stop, [], []⟩
def d_Net_need_rule : He.DefD := ⟨("Net", some "need_rule"), "need_rule", "Net.need_rule", defArgs s_Net_need_rule, defBody s_Net_need_rule, defScope s_Net_need_rule, [], []⟩
def d_Net_need_trip : He.DefD := ⟨("Net", some "need_trip"), "need_trip", "Net.need_trip", defArgs s_Net_need_trip, defBody s_Net_need_trip, defScope s_Net_need_trip, [], []⟩
def d_Net_add_stop : He.DefD := ⟨("Net", some "add_stop"), "add_stop", "Net.add_stop", defArgs s_Net_add_stop, defBody s_Net_add_stop, defScope s_Net_add_stop, [], []⟩
def d_Net_add_rule : He.DefD := ⟨("Net", some "add_rule"), "add_rule", "Net.add_rule", defArgs s_Net_add_rule, defBody s_Net_add_rule, defScope s_Net_add_rule, [], []⟩
def d_Net_add_trip : He.DefD := ⟨("Net", some "add_trip"), "add_trip", "Net.add_trip", defArgs s_Net_add_trip, defBody s_Net_add_trip, defScope s_Net_add_trip, [], []⟩
def d_Net_trips : He.DefD := ⟨("Net", some "trips"), "trips", "Net.trips", defArgs s_Net_trips, defBody s_Net_trips, defScope s_Net_trips, [], []⟩
def d_Net_rule_name : He.DefD := ⟨("Net", some "rule_name"), "rule_name", "Net.rule_name", defArgs s_Net_rule_name, defBody s_Net_rule_name, defScope s_Net_rule_name, [], []⟩
def d_Net_calls : He.DefD := ⟨("Net", some "calls"), "calls", "Net.calls", defArgs s_Net_calls, defBody s_Net_calls, defScope s_Net_calls, [], []⟩
def d__law_cell_at : He.DefD := ⟨("_law_cell_at", none), "_law_cell_at", "_law_cell_at", defArgs s__law_cell_at, defBody s__law_cell_at, defScope s__law_cell_at, [], []⟩
def d__law_mixed : He.DefD := ⟨("_law_mixed", none), "_law_mixed", "_law_mixed", defArgs s__law_mixed, defBody s__law_mixed, defScope s__law_mixed, [], []⟩
def d__law_among : He.DefD := ⟨("_law_among", none), "_law_among", "_law_among", defArgs s__law_among, defBody s__law_among, defScope s__law_among, [], []⟩
def d__law_name : He.DefD := ⟨("_law_name", none), "_law_name", "_law_name", defArgs s__law_name, defBody s__law_name, defScope s__law_name, [], []⟩
def d__law_is_name : He.DefD := ⟨("_law_is_name", none), "_law_is_name", "_law_is_name", defArgs s__law_is_name, defBody s__law_is_name, defScope s__law_is_name, [], []⟩
def d__law_said : He.DefD := ⟨("_law_said", none), "_law_said", "_law_said", defArgs s__law_said, defBody s__law_said, defScope s__law_said, [], []⟩
def d__law_calls : He.DefD := ⟨("_law_calls", none), "_law_calls", "_law_calls", defArgs s__law_calls, defBody s__law_calls, defScope s__law_calls, [], []⟩
def d__law_shape : He.DefD := ⟨("_law_shape", none), "_law_shape", "_law_shape", defArgs s__law_shape, defBody s__law_shape, defScope s__law_shape, [], []⟩
def d__law_due : He.DefD := ⟨("_law_due", none), "_law_due", "_law_due", defArgs s__law_due, defBody s__law_due, defScope s__law_due, [], []⟩
def d__law_bad_call : He.DefD := ⟨("_law_bad_call", none), "_law_bad_call", "_law_bad_call", defArgs s__law_bad_call, defBody s__law_bad_call, defScope s__law_bad_call, [], []⟩
def d__law_spoilt : He.DefD := ⟨("_law_spoilt", none), "_law_spoilt", "_law_spoilt", defArgs s__law_spoilt, defBody s__law_spoilt, defScope s__law_spoilt, [], []⟩
def d__law_tried : He.DefD := ⟨("_law_tried", none), "_law_tried", "_law_tried", defArgs s__law_tried, defBody s__law_tried, defScope s__law_tried, [], []⟩
def d__law_borders : He.DefD := ⟨("_law_borders", none), "_law_borders", "_law_borders", defArgs s__law_borders, defBody s__law_borders, defScope s__law_borders, [], []⟩
def d_law : He.DefD := ⟨("law", none), "law", "law", defArgs s_law, defBody s_law, defScope s_law, [], []⟩
def fn : List He.DefD := [d_is_among, d_need, d_Week___init__, d_is_name, d_need_fresh, d_need_among, d_need_room, d_are_calls, d_rises, d_Net___init__, d_Net_need_stop, d_Net_need_rule, d_Net_need_trip, d_Net_add_stop, d_Net_add_rule, d_Net_add_trip, d_Net_trips, d_Net_rule_name, d_Net_calls, d__law_cell_at, d__law_mixed, d__law_among, d__law_name, d__law_is_name, d__law_said, d__law_calls, d__law_shape, d__law_due, d__law_bad_call, d__law_spoilt, d__law_tried, d__law_borders, d_law]
def fa : List He.Fa := [.glo "is_among", .glo "need", .glo "is_name", .glo "need_fresh", .glo "need_among", .glo "need_room", .glo "are_calls", .glo "rises", .glo "_law_cell_at", .glo "_law_mixed", .glo "_law_among", .glo "_law_name", .glo "_law_is_name", .glo "_law_said", .glo "_law_calls", .glo "_law_shape", .glo "_law_due", .glo "_law_bad_call", .glo "_law_spoilt", .glo "_law_tried", .glo "_law_borders", .glo "law", .mkr "Net", .mkr "Week", .free "ValueError", .free "all", .free "bool", .free "enumerate", .free "int", .free "isinstance", .free "len", .free "list", .free "max", .free "range", .free "str", .free "tuple", .str "LETTERS" (S [97, 98, 99, 100, 101, 102, 103, 104, 105, 106, 107, 108, 109, 110, 111, 112, 113, 114, 115, 116, 117, 118, 119, 120, 121, 122]), .int "MOST_LETTERS" 8, .int "MOST_MINUTE" 2879, .int "MOST_STOPS" 8, .int "MOST_RULES" 6, .int "MOST_TRIPS" 10, .int "MOST_CALLS" 6, .int "MOST_ZONE" 6, .glo "RoadError", .glo "BadClock", .glo "BadRule", .glo "TooMany", .glo "BadName", .glo "Twice", .glo "NoStop", .glo "NoRule", .glo "NoTicket", .glo "NoTrip", .glo "BadNumber", .glo "BadCalls", .glo "NoRun", .glo "TooLate", .glo "NoTraveller", .glo "BadLine", .glo "BadRow", .glo "NoPlan", .glo "Rule", .glo "Week", .glo "Net"]
abbrev R : PySem.W.OpenRow := PySem.W.OpenLaw.row PySem.Challenge.rw_roadbook_k07_trips_refused
def mo0 : List (Str × Str × Str) := [("Net", "need_rule", "Net"), ("Net", "need_stop", "Net"), ("Net", "need_trip", "Net"), ("Net", "add_trip", "Net"), ("Net", "calls", "Net"), ("Net", "add_stop", "Net"), ("Net", "add_rule", "Net"), ("Net", "trips", "Net"), ("Net", "rule_name", "Net")]
def moL : List (Str × Str × Str) := mo0
abbrev m0L : List Str := ["Rule"]
def exK (K : PySem.W.Frag) : Bool := exB caT parT n1T K && (obB caT fmT csT 6 K && (kiB caT parA csT K && (moB moL K && mk0B m0L K)))
def tfL : List He.Defn := [("_law_tried", none)]
abbrev hk : PySem.W.Hook := Mp.hookL 5 fa fn tfL exK
def ob (s : PySem.W.SharedT) : Mp.AlL := Mp.obsLG 5 fa fn tfL exK (HandSHeadRun.getT s)
theorem ob_eq (s : PySem.W.SharedT) : ob s = hk.obs s.abs := Mp.obsLG_eq (HandSHeadRun.getT_eq s)
def loose0 : List Str := ["_wall", "RoadError", "BadClock", "BadRule", "TooMany", "BadName", "Twice", "NoStop", "NoRule", "NoTicket", "NoTrip", "BadNumber", "BadCalls", "NoRun", "TooLate", "NoTraveller", "BadLine", "BadRow", "NoPlan", "is_among", "need", "Rule", "Week", "LETTERS", "MOST_LETTERS", "MOST_MINUTE", "MOST_STOPS", "MOST_RULES", "MOST_TRIPS", "MOST_CALLS"]
def loose1 : List Str := ["MOST_ZONE", "is_name", "need_fresh", "need_among", "need_room", "are_calls", "rises", "Net", "_law_cell_at", "_law_mixed", "_law_among", "_law_name", "_law_is_name", "_law_said", "_law_calls", "_law_shape", "_law_due", "_law_bad_call", "_law_spoilt", "_law_tried", "_law_borders"]
abbrev loose : List Str := loose0 ++ loose1
theorem run (w : World) : HandSHeadRun.RunEq R (PySem.W.view R.prog [56]) hk ob 8000 loose w := by
  intro os
  kernel_rfl
section
variable {P : Program} {w : World} {K : PySem.W.Frag} {h : Heap} {mg : Str → Option Value} {f : Addr}
theorem txt (X : K.In h) (G : h.Ns mainGlobals mg) (c : Mp.SaysL fa fn tfL exK h K) : Txt K mg where
  f_ValueError := He.free_ok X G (c.d.fact 24 (f := .free "ValueError") rfl)
  f_all := He.free_ok X G (c.d.fact 25 (f := .free "all") rfl)
  f_bool := He.free_ok X G (c.d.fact 26 (f := .free "bool") rfl)
  f_enumerate := He.free_ok X G (c.d.fact 27 (f := .free "enumerate") rfl)
  f_int := He.free_ok X G (c.d.fact 28 (f := .free "int") rfl)
  f_isinstance := He.free_ok X G (c.d.fact 29 (f := .free "isinstance") rfl)
  f_len := He.free_ok X G (c.d.fact 30 (f := .free "len") rfl)
  f_list := He.free_ok X G (c.d.fact 31 (f := .free "list") rfl)
  f_max := He.free_ok X G (c.d.fact 32 (f := .free "max") rfl)
  f_range := He.free_ok X G (c.d.fact 33 (f := .free "range") rfl)
  f_str := He.free_ok X G (c.d.fact 34 (f := .free "str") rfl)
  f_tuple := He.free_ok X G (c.d.fact 35 (f := .free "tuple") rfl)
  k_LETTERS := let ⟨t, e⟩ := He.str_ok X G (c.d.fact 36 (f := .str "LETTERS" (S [97, 98, 99, 100, 101, 102, 103, 104, 105, 106, 107, 108, 109, 110, 111, 112, 113, 114, 115, 116, 117, 118, 119, 120, 121, 122])) rfl); ⟨_, e, _, rfl⟩
  k_MOST_LETTERS := let ⟨t, e⟩ := He.int_ok X G (c.d.fact 37 (f := .int "MOST_LETTERS" 8) rfl); ⟨_, e, _, rfl⟩
  k_MOST_MINUTE := let ⟨t, e⟩ := He.int_ok X G (c.d.fact 38 (f := .int "MOST_MINUTE" 2879) rfl); ⟨_, e, _, rfl⟩
  k_MOST_STOPS := let ⟨t, e⟩ := He.int_ok X G (c.d.fact 39 (f := .int "MOST_STOPS" 8) rfl); ⟨_, e, _, rfl⟩
  k_MOST_RULES := let ⟨t, e⟩ := He.int_ok X G (c.d.fact 40 (f := .int "MOST_RULES" 6) rfl); ⟨_, e, _, rfl⟩
  k_MOST_TRIPS := let ⟨t, e⟩ := He.int_ok X G (c.d.fact 41 (f := .int "MOST_TRIPS" 10) rfl); ⟨_, e, _, rfl⟩
  k_MOST_CALLS := let ⟨t, e⟩ := He.int_ok X G (c.d.fact 42 (f := .int "MOST_CALLS" 6) rfl); ⟨_, e, _, rfl⟩
  k_MOST_ZONE := let ⟨t, e⟩ := He.int_ok X G (c.d.fact 43 (f := .int "MOST_ZONE" 6) rfl); ⟨_, e, _, rfl⟩
  c_RoadError := He.glo_ok X G (c.d.fact 44 (f := .glo "RoadError") rfl)
  c_BadClock := He.glo_ok X G (c.d.fact 45 (f := .glo "BadClock") rfl)
  c_BadRule := He.glo_ok X G (c.d.fact 46 (f := .glo "BadRule") rfl)
  c_TooMany := He.glo_ok X G (c.d.fact 47 (f := .glo "TooMany") rfl)
  c_BadName := He.glo_ok X G (c.d.fact 48 (f := .glo "BadName") rfl)
  c_Twice := He.glo_ok X G (c.d.fact 49 (f := .glo "Twice") rfl)
  c_NoStop := He.glo_ok X G (c.d.fact 50 (f := .glo "NoStop") rfl)
  c_NoRule := He.glo_ok X G (c.d.fact 51 (f := .glo "NoRule") rfl)
  c_NoTicket := He.glo_ok X G (c.d.fact 52 (f := .glo "NoTicket") rfl)
  c_NoTrip := He.glo_ok X G (c.d.fact 53 (f := .glo "NoTrip") rfl)
  c_BadNumber := He.glo_ok X G (c.d.fact 54 (f := .glo "BadNumber") rfl)
  c_BadCalls := He.glo_ok X G (c.d.fact 55 (f := .glo "BadCalls") rfl)
  c_NoRun := He.glo_ok X G (c.d.fact 56 (f := .glo "NoRun") rfl)
  c_TooLate := He.glo_ok X G (c.d.fact 57 (f := .glo "TooLate") rfl)
  c_NoTraveller := He.glo_ok X G (c.d.fact 58 (f := .glo "NoTraveller") rfl)
  c_BadLine := He.glo_ok X G (c.d.fact 59 (f := .glo "BadLine") rfl)
  c_BadRow := He.glo_ok X G (c.d.fact 60 (f := .glo "BadRow") rfl)
  c_NoPlan := He.glo_ok X G (c.d.fact 61 (f := .glo "NoPlan") rfl)
  c_Rule := He.glo_ok X G (c.d.fact 62 (f := .glo "Rule") rfl)
  c_Week := He.glo_ok X G (c.d.fact 63 (f := .glo "Week") rfl)
  c_Net := He.glo_ok X G (c.d.fact 64 (f := .glo "Net") rfl)
  xt := exT_of (He.ba (show (exB caT parT n1T K && _) = true from c.more)).1
  ob := obT_of (He.ba (He.ba (show (exB caT parT n1T K && (obB caT fmT csT 6 K && _)) = true from c.more)).2).1 (by decide +kernel)
  ki := kiT_of (He.ba (He.ba (He.ba (show (exB caT parT n1T K && (obB caT fmT csT 6 K && (kiB caT parA csT K && _))) = true from c.more)).2).2).1
  m0_Rule := mk0_ok (l := m0L) (He.ba (He.ba (He.ba (He.ba (show (exB caT parT n1T K && (obB caT fmT csT 6 K && (kiB caT parA csT K && (moB moL K && mk0B m0L K)))) = true from c.more)).2).2).2).2 (c := "Rule") (by decide +kernel)
theorem mot (c : Mp.SaysL fa fn tfL exK h K) : moB moL K = true := (He.ba (He.ba (He.ba (He.ba (show (exB caT parT n1T K && (obB caT fmT csT 6 K && (kiB caT parA csT K && (moB moL K && mk0B m0L K)))) = true from c.more)).2).2).2).1
theorem ok_is_among {base : Heap} (X : K.In h) (G : h.Ns mainGlobals mg) (c : Mp.SaysL fa fn tfL exK h K) (tbs : ∀ p ∈ tfL, LamX.TabB base mg (He.cT K p).1 (He.cT K p).2) : Okd (tb K) P w mg base (He.fAd K ("is_among", none)) 1 3 f_is_among := by
  obtain ⟨fd, F⟩ := c.d.def_ 0 (d := d_is_among) rfl
  exact ⟨fd, ["thing", "least", "most"], F.kp, F.bindsN fun _ _ _ _ _ _ us hl => match us, hl with | [_, _, _], _ => rfl, fn_d (T := tb K) F sc_is_among fun cdv A outer s H E hr => b_is_among (txt X G c)  cdv A outer s H E hr⟩
theorem ok_need {base : Heap} (X : K.In h) (G : h.Ns mainGlobals mg) (c : Mp.SaysL fa fn tfL exK h K) (tbs : ∀ p ∈ tfL, LamX.TabB base mg (He.cT K p).1 (He.cT K p).2) : Okd (tb K) P w mg base (He.fAd K ("need", none)) 1 1 f_need := by
  obtain ⟨fd, F⟩ := c.d.def_ 1 (d := d_need) rfl
  exact ⟨fd, ["good"], F.kp, F.bindsN fun _ _ _ _ _ _ us hl => match us, hl with | [_], _ => rfl, fn_d (T := tb K) F sc_need fun cdv A outer s H E hr => b_need (txt X G c)  cdv A outer s H E hr⟩
theorem ok_Week___init__ {base : Heap} (X : K.In h) (G : h.Ns mainGlobals mg) (c : Mp.SaysL fa fn tfL exK h K) (tbs : ∀ p ∈ tfL, LamX.TabB base mg (He.cT K p).1 (He.cT K p).2) : Okd (tb K) P w mg base (He.fAd K ("Week", some "__init__")) 2 2 f_Week___init__ := by
  obtain ⟨fd, F⟩ := c.d.def_ 2 (d := d_Week___init__) rfl
  exact ⟨fd, ["self", "bits"], F.kp, F.bindsN fun _ _ _ _ _ _ us hl => match us, hl with | [_, _], _ => rfl, fn_d (T := tb K) F sc_Week___init__ fun cdv A outer s H E hr => b_Week___init__ (txt X G c) ((ok_is_among X G c tbs).cl (He.glo_ok X G (c.d.fact 0 (f := .glo "is_among") rfl))) ((ok_need X G c tbs).cl (He.glo_ok X G (c.d.fact 1 (f := .glo "need") rfl))) cdv A outer s H E hr⟩
theorem ok_is_name {base : Heap} (X : K.In h) (G : h.Ns mainGlobals mg) (c : Mp.SaysL fa fn tfL exK h K) (tbs : ∀ p ∈ tfL, LamX.TabB base mg (He.cT K p).1 (He.cT K p).2) : Okd (tb K) P w mg base (He.fAd K ("is_name", none)) 1 1 f_is_name := by
  obtain ⟨fd, F⟩ := c.d.def_ 3 (d := d_is_name) rfl
  exact ⟨fd, ["thing"], F.kp, F.bindsN fun _ _ _ _ _ _ us hl => match us, hl with | [_], _ => rfl, fn_d (T := tb K) F sc_is_name fun cdv A outer s H E hr => b_is_name (txt X G c)  cdv A outer s H E hr⟩
theorem ok_need_fresh {base : Heap} (X : K.In h) (G : h.Ns mainGlobals mg) (c : Mp.SaysL fa fn tfL exK h K) (tbs : ∀ p ∈ tfL, LamX.TabB base mg (He.cT K p).1 (He.cT K p).2) : Okd (tb K) P w mg base (He.fAd K ("need_fresh", none)) 2 2 f_need_fresh := by
  obtain ⟨fd, F⟩ := c.d.def_ 4 (d := d_need_fresh) rfl
  exact ⟨fd, ["name", "kept"], F.kp, F.bindsN fun _ _ _ _ _ _ us hl => match us, hl with | [_, _], _ => rfl, fn_d (T := tb K) F sc_need_fresh fun cdv A outer s H E hr => b_need_fresh (txt X G c) ((ok_is_name X G c tbs).cl (He.glo_ok X G (c.d.fact 2 (f := .glo "is_name") rfl))) cdv A outer s H E hr⟩
theorem ok_need_among {base : Heap} (X : K.In h) (G : h.Ns mainGlobals mg) (c : Mp.SaysL fa fn tfL exK h K) (tbs : ∀ p ∈ tfL, LamX.TabB base mg (He.cT K p).1 (He.cT K p).2) : Okd (tb K) P w mg base (He.fAd K ("need_among", none)) 2 3 f_need_among := by
  obtain ⟨fd, F⟩ := c.d.def_ 5 (d := d_need_among) rfl
  exact ⟨fd, ["thing", "least", "most"], F.kp, F.bindsN fun _ _ _ _ _ _ us hl => match us, hl with | [_, _, _], _ => rfl, fn_d (T := tb K) F sc_need_among fun cdv A outer s H E hr => b_need_among (txt X G c) ((ok_is_among X G c tbs).cl (He.glo_ok X G (c.d.fact 0 (f := .glo "is_among") rfl))) cdv A outer s H E hr⟩
theorem ok_need_room {base : Heap} (X : K.In h) (G : h.Ns mainGlobals mg) (c : Mp.SaysL fa fn tfL exK h K) (tbs : ∀ p ∈ tfL, LamX.TabB base mg (He.cT K p).1 (He.cT K p).2) : Okd (tb K) P w mg base (He.fAd K ("need_room", none)) 1 2 f_need_room := by
  obtain ⟨fd, F⟩ := c.d.def_ 6 (d := d_need_room) rfl
  exact ⟨fd, ["kept", "most"], F.kp, F.bindsN fun _ _ _ _ _ _ us hl => match us, hl with | [_, _], _ => rfl, fn_d (T := tb K) F sc_need_room fun cdv A outer s H E hr => b_need_room (txt X G c)  cdv A outer s H E hr⟩
theorem ok_are_calls {base : Heap} (X : K.In h) (G : h.Ns mainGlobals mg) (c : Mp.SaysL fa fn tfL exK h K) (tbs : ∀ p ∈ tfL, LamX.TabB base mg (He.cT K p).1 (He.cT K p).2) : Okd (tb K) P w mg base (He.fAd K ("are_calls", none)) 1 1 f_are_calls := by
  obtain ⟨fd, F⟩ := c.d.def_ 7 (d := d_are_calls) rfl
  exact ⟨fd, ["thing"], F.kp, F.bindsN fun _ _ _ _ _ _ us hl => match us, hl with | [_], _ => rfl, fn_d (T := tb K) F sc_are_calls fun cdv A outer s H E hr => b_are_calls (txt X G c)  cdv A outer s H E hr⟩
theorem ok_rises {base : Heap} (X : K.In h) (G : h.Ns mainGlobals mg) (c : Mp.SaysL fa fn tfL exK h K) (tbs : ∀ p ∈ tfL, LamX.TabB base mg (He.cT K p).1 (He.cT K p).2) : Okd (tb K) P w mg base (He.fAd K ("rises", none)) 1 2 f_rises := by
  obtain ⟨fd, F⟩ := c.d.def_ 8 (d := d_rises) rfl
  exact ⟨fd, ["ahead", "call"], F.kp, F.bindsN fun _ _ _ _ _ _ us hl => match us, hl with | [_, _], _ => rfl, fn_d (T := tb K) F sc_rises fun cdv A outer s H E hr => b_rises (txt X G c)  cdv A outer s H E hr⟩
theorem ok_Net___init__ {base : Heap} (X : K.In h) (G : h.Ns mainGlobals mg) (c : Mp.SaysL fa fn tfL exK h K) (tbs : ∀ p ∈ tfL, LamX.TabB base mg (He.cT K p).1 (He.cT K p).2) : Okd (tb K) P w mg base (He.fAd K ("Net", some "__init__")) 1 1 f_Net___init__ := by
  obtain ⟨fd, F⟩ := c.d.def_ 9 (d := d_Net___init__) rfl
  exact ⟨fd, ["self"], F.kp, F.bindsN fun _ _ _ _ _ _ us hl => match us, hl with | [_], _ => rfl, fn_d (T := tb K) F sc_Net___init__ fun cdv A outer s H E hr => b_Net___init__ (txt X G c)  cdv A outer s H E hr⟩
theorem ok_Net_need_stop {base : Heap} (X : K.In h) (G : h.Ns mainGlobals mg) (c : Mp.SaysL fa fn tfL exK h K) (tbs : ∀ p ∈ tfL, LamX.TabB base mg (He.cT K p).1 (He.cT K p).2) : Okd (tb K) P w mg base (He.fAd K ("Net", some "need_stop")) 2 2 f_Net_need_stop := by
  obtain ⟨fd, F⟩ := c.d.def_ 10 (d := d_Net_need_stop) rfl
  exact ⟨fd, ["self", "stop"], F.kp, F.bindsN fun _ _ _ _ _ _ us hl => match us, hl with | [_, _], _ => rfl, fn_d (T := tb K) F sc_Net_need_stop fun cdv A outer s H E hr => b_Net_need_stop (txt X G c) ((ok_is_name X G c tbs).cl (He.glo_ok X G (c.d.fact 2 (f := .glo "is_name") rfl))) cdv A outer s H E hr⟩
theorem ok_Net_need_rule {base : Heap} (X : K.In h) (G : h.Ns mainGlobals mg) (c : Mp.SaysL fa fn tfL exK h K) (tbs : ∀ p ∈ tfL, LamX.TabB base mg (He.cT K p).1 (He.cT K p).2) : Okd (tb K) P w mg base (He.fAd K ("Net", some "need_rule")) 2 2 f_Net_need_rule := by
  obtain ⟨fd, F⟩ := c.d.def_ 11 (d := d_Net_need_rule) rfl
  exact ⟨fd, ["self", "name"], F.kp, F.bindsN fun _ _ _ _ _ _ us hl => match us, hl with | [_, _], _ => rfl, fn_d (T := tb K) F sc_Net_need_rule fun cdv A outer s H E hr => b_Net_need_rule (txt X G c) ((ok_is_name X G c tbs).cl (He.glo_ok X G (c.d.fact 2 (f := .glo "is_name") rfl))) cdv A outer s H E hr⟩
theorem ok_Net_need_trip {base : Heap} (X : K.In h) (G : h.Ns mainGlobals mg) (c : Mp.SaysL fa fn tfL exK h K) (tbs : ∀ p ∈ tfL, LamX.TabB base mg (He.cT K p).1 (He.cT K p).2) : Okd (tb K) P w mg base (He.fAd K ("Net", some "need_trip")) 2 2 f_Net_need_trip := by
  obtain ⟨fd, F⟩ := c.d.def_ 12 (d := d_Net_need_trip) rfl
  exact ⟨fd, ["self", "trip"], F.kp, F.bindsN fun _ _ _ _ _ _ us hl => match us, hl with | [_, _], _ => rfl, fn_d (T := tb K) F sc_Net_need_trip fun cdv A outer s H E hr => b_Net_need_trip (txt X G c) ((ok_is_name X G c tbs).cl (He.glo_ok X G (c.d.fact 2 (f := .glo "is_name") rfl))) cdv A outer s H E hr⟩
theorem ok_Net_add_stop {base : Heap} (X : K.In h) (G : h.Ns mainGlobals mg) (c : Mp.SaysL fa fn tfL exK h K) (tbs : ∀ p ∈ tfL, LamX.TabB base mg (He.cT K p).1 (He.cT K p).2) : Okd (tb K) P w mg base (He.fAd K ("Net", some "add_stop")) 3 4 f_Net_add_stop := by
  obtain ⟨fd, F⟩ := c.d.def_ 13 (d := d_Net_add_stop) rfl
  exact ⟨fd, ["self", "name", "zone", "change"], F.kp, F.bindsN fun _ _ _ _ _ _ us hl => match us, hl with | [_, _, _, _], _ => rfl, fn_d (T := tb K) F sc_Net_add_stop fun cdv A outer s H E hr => b_Net_add_stop (txt X G c) ((ok_need_fresh X G c tbs).cl (He.glo_ok X G (c.d.fact 3 (f := .glo "need_fresh") rfl))) ((ok_need_among X G c tbs).cl (He.glo_ok X G (c.d.fact 4 (f := .glo "need_among") rfl))) ((ok_need_room X G c tbs).cl (He.glo_ok X G (c.d.fact 5 (f := .glo "need_room") rfl))) cdv A outer s H E hr⟩
theorem ok_Net_add_rule {base : Heap} (X : K.In h) (G : h.Ns mainGlobals mg) (c : Mp.SaysL fa fn tfL exK h K) (tbs : ∀ p ∈ tfL, LamX.TabB base mg (He.cT K p).1 (He.cT K p).2) : Okd (tb K) P w mg base (He.fAd K ("Net", some "add_rule")) 3 3 f_Net_add_rule := by
  obtain ⟨fd, F⟩ := c.d.def_ 14 (d := d_Net_add_rule) rfl
  exact ⟨fd, ["self", "name", "rule"], F.kp, F.bindsN fun _ _ _ _ _ _ us hl => match us, hl with | [_, _, _], _ => rfl, fn_d (T := tb K) F sc_Net_add_rule fun cdv A outer s H E hr => b_Net_add_rule (txt X G c) ((ok_need_fresh X G c tbs).cl (He.glo_ok X G (c.d.fact 3 (f := .glo "need_fresh") rfl))) ((ok_need_room X G c tbs).cl (He.glo_ok X G (c.d.fact 5 (f := .glo "need_room") rfl))) cdv A outer s H E hr⟩
theorem ok_Net_add_trip {base : Heap} (X : K.In h) (G : h.Ns mainGlobals mg) (c : Mp.SaysL fa fn tfL exK h K) (tbs : ∀ p ∈ tfL, LamX.TabB base mg (He.cT K p).1 (He.cT K p).2) : Okd (tb K) P w mg base (He.fAd K ("Net", some "add_trip")) 3 4 f_Net_add_trip := by
  obtain ⟨fd, F⟩ := c.d.def_ 15 (d := d_Net_add_trip) rfl
  exact ⟨fd, ["self", "name", "rule", "calls"], F.kp, F.bindsN fun _ _ _ _ _ _ us hl => match us, hl with | [_, _, _, _], _ => rfl, fn_d (T := tb K) F sc_Net_add_trip fun cdv A outer s H E hr => b_Net_add_trip (txt X G c) ((ok_need_fresh X G c tbs).cl (He.glo_ok X G (c.d.fact 3 (f := .glo "need_fresh") rfl))) ((ok_are_calls X G c tbs).cl (He.glo_ok X G (c.d.fact 6 (f := .glo "are_calls") rfl))) ((ok_need_among X G c tbs).cl (He.glo_ok X G (c.d.fact 4 (f := .glo "need_among") rfl))) ((ok_rises X G c tbs).cl (He.glo_ok X G (c.d.fact 7 (f := .glo "rises") rfl))) ((ok_need_room X G c tbs).cl (He.glo_ok X G (c.d.fact 5 (f := .glo "need_room") rfl))) ((ok_Net_need_rule X G c tbs).mc ((txt X G c).ob.cls 20 (by decide)) (mo_ok (mot c) (c := "Net") (m := "need_rule") (b := "Net") (by decide +kernel))) ((ok_Net_need_stop X G c tbs).mc ((txt X G c).ob.cls 20 (by decide)) (mo_ok (mot c) (c := "Net") (m := "need_stop") (b := "Net") (by decide +kernel))) cdv A outer s H E hr⟩
theorem ok_Net_trips {base : Heap} (X : K.In h) (G : h.Ns mainGlobals mg) (c : Mp.SaysL fa fn tfL exK h K) (tbs : ∀ p ∈ tfL, LamX.TabB base mg (He.cT K p).1 (He.cT K p).2) : Okd (tb K) P w mg base (He.fAd K ("Net", some "trips")) 1 1 f_Net_trips := by
  obtain ⟨fd, F⟩ := c.d.def_ 16 (d := d_Net_trips) rfl
  exact ⟨fd, ["self"], F.kp, F.bindsN fun _ _ _ _ _ _ us hl => match us, hl with | [_], _ => rfl, fn_d (T := tb K) F sc_Net_trips fun cdv A outer s H E hr => b_Net_trips (txt X G c)  cdv A outer s H E hr⟩
theorem ok_Net_rule_name {base : Heap} (X : K.In h) (G : h.Ns mainGlobals mg) (c : Mp.SaysL fa fn tfL exK h K) (tbs : ∀ p ∈ tfL, LamX.TabB base mg (He.cT K p).1 (He.cT K p).2) : Okd (tb K) P w mg base (He.fAd K ("Net", some "rule_name")) 3 2 f_Net_rule_name := by
  obtain ⟨fd, F⟩ := c.d.def_ 17 (d := d_Net_rule_name) rfl
  exact ⟨fd, ["self", "trip"], F.kp, F.bindsN fun _ _ _ _ _ _ us hl => match us, hl with | [_, _], _ => rfl, fn_d (T := tb K) F sc_Net_rule_name fun cdv A outer s H E hr => b_Net_rule_name (txt X G c) ((ok_Net_need_trip X G c tbs).mc ((txt X G c).ob.cls 20 (by decide)) (mo_ok (mot c) (c := "Net") (m := "need_trip") (b := "Net") (by decide +kernel))) cdv A outer s H E hr⟩
theorem ok_Net_calls {base : Heap} (X : K.In h) (G : h.Ns mainGlobals mg) (c : Mp.SaysL fa fn tfL exK h K) (tbs : ∀ p ∈ tfL, LamX.TabB base mg (He.cT K p).1 (He.cT K p).2) : Okd (tb K) P w mg base (He.fAd K ("Net", some "calls")) 3 2 f_Net_calls := by
  obtain ⟨fd, F⟩ := c.d.def_ 18 (d := d_Net_calls) rfl
  exact ⟨fd, ["self", "trip"], F.kp, F.bindsN fun _ _ _ _ _ _ us hl => match us, hl with | [_, _], _ => rfl, fn_d (T := tb K) F sc_Net_calls fun cdv A outer s H E hr => b_Net_calls (txt X G c) ((ok_Net_need_trip X G c tbs).mc ((txt X G c).ob.cls 20 (by decide)) (mo_ok (mot c) (c := "Net") (m := "need_trip") (b := "Net") (by decide +kernel))) cdv A outer s H E hr⟩
theorem ok__law_cell_at {base : Heap} (X : K.In h) (G : h.Ns mainGlobals mg) (c : Mp.SaysL fa fn tfL exK h K) (tbs : ∀ p ∈ tfL, LamX.TabB base mg (He.cT K p).1 (He.cT K p).2) : Okd (tb K) P w mg base (He.fAd K ("_law_cell_at", none)) 1 2 f__law_cell_at := by
  obtain ⟨fd, F⟩ := c.d.def_ 19 (d := d__law_cell_at) rfl
  exact ⟨fd, ["_law_script", "_law_k"], F.kp, F.bindsN fun _ _ _ _ _ _ us hl => match us, hl with | [_, _], _ => rfl, fn_d (T := tb K) F sc__law_cell_at fun cdv A outer s H E hr => b__law_cell_at (txt X G c)  cdv A outer s H E hr⟩
theorem ok__law_mixed {base : Heap} (X : K.In h) (G : h.Ns mainGlobals mg) (c : Mp.SaysL fa fn tfL exK h K) (tbs : ∀ p ∈ tfL, LamX.TabB base mg (He.cT K p).1 (He.cT K p).2) : Okd (tb K) P w mg base (He.fAd K ("_law_mixed", none)) 1 2 f__law_mixed := by
  obtain ⟨fd, F⟩ := c.d.def_ 20 (d := d__law_mixed) rfl
  exact ⟨fd, ["_law_cell", "_law_k"], F.kp, F.bindsN fun _ _ _ _ _ _ us hl => match us, hl with | [_, _], _ => rfl, fn_d (T := tb K) F sc__law_mixed fun cdv A outer s H E hr => b__law_mixed (txt X G c)  cdv A outer s H E hr⟩
theorem ok__law_among {base : Heap} (X : K.In h) (G : h.Ns mainGlobals mg) (c : Mp.SaysL fa fn tfL exK h K) (tbs : ∀ p ∈ tfL, LamX.TabB base mg (He.cT K p).1 (He.cT K p).2) : Okd (tb K) P w mg base (He.fAd K ("_law_among", none)) 1 3 f__law_among := by
  obtain ⟨fd, F⟩ := c.d.def_ 21 (d := d__law_among) rfl
  exact ⟨fd, ["_law_thing", "_law_least", "_law_most"], F.kp, F.bindsN fun _ _ _ _ _ _ us hl => match us, hl with | [_, _, _], _ => rfl, fn_d (T := tb K) F sc__law_among fun cdv A outer s H E hr => b__law_among (txt X G c)  cdv A outer s H E hr⟩
theorem ok__law_name {base : Heap} (X : K.In h) (G : h.Ns mainGlobals mg) (c : Mp.SaysL fa fn tfL exK h K) (tbs : ∀ p ∈ tfL, LamX.TabB base mg (He.cT K p).1 (He.cT K p).2) : Okd (tb K) P w mg base (He.fAd K ("_law_name", none)) 2 2 f__law_name := by
  obtain ⟨fd, F⟩ := c.d.def_ 22 (d := d__law_name) rfl
  exact ⟨fd, ["_law_seed", "_law_k"], F.kp, F.bindsN fun _ _ _ _ _ _ us hl => match us, hl with | [_, _], _ => rfl, fn_d (T := tb K) F sc__law_name fun cdv A outer s H E hr => b__law_name (txt X G c) ((ok__law_mixed X G c tbs).cl (He.glo_ok X G (c.d.fact 9 (f := .glo "_law_mixed") rfl))) cdv A outer s H E hr⟩
theorem ok__law_is_name {base : Heap} (X : K.In h) (G : h.Ns mainGlobals mg) (c : Mp.SaysL fa fn tfL exK h K) (tbs : ∀ p ∈ tfL, LamX.TabB base mg (He.cT K p).1 (He.cT K p).2) : Okd (tb K) P w mg base (He.fAd K ("_law_is_name", none)) 1 1 f__law_is_name := by
  obtain ⟨fd, F⟩ := c.d.def_ 23 (d := d__law_is_name) rfl
  exact ⟨fd, ["_law_thing"], F.kp, F.bindsN fun _ _ _ _ _ _ us hl => match us, hl with | [_], _ => rfl, fn_d (T := tb K) F sc__law_is_name fun cdv A outer s H E hr => b__law_is_name (txt X G c)  cdv A outer s H E hr⟩
theorem okl__law_said {base : Heap} (X : K.In h) (G : h.Ns mainGlobals mg) (c : Mp.SaysL fa fn tfL exK h K) (tbs : ∀ p ∈ tfL, LamX.TabB base mg (He.cT K p).1 (He.cT K p).2) (gl : mg "_law_said" = some (.ref (He.fAd K ("_law_said", none)))) : ClL (tb K) P w mg base "_law_said" 0 3 g__law_said := by
  obtain ⟨fd, F⟩ := c.d.def_ 24 (d := d__law_said) rfl
  exact ⟨_, "_law_call", N__law_said, _, _, _, fd, gl, F, F.bindsN fun _ _ _ _ _ _ us hl => match us, hl with | [_], _ => rfl, sc__law_said, rfl, Or.inl rfl, by decide, by decide, rfl, fun cdv A outer s H E fc hr hcall => b__law_said (txt X G c)  cdv A outer s H E hr fc hcall⟩
theorem ok__law_calls {base : Heap} (X : K.In h) (G : h.Ns mainGlobals mg) (c : Mp.SaysL fa fn tfL exK h K) (tbs : ∀ p ∈ tfL, LamX.TabB base mg (He.cT K p).1 (He.cT K p).2) : Okd (tb K) P w mg base (He.fAd K ("_law_calls", none)) 2 3 f__law_calls := by
  obtain ⟨fd, F⟩ := c.d.def_ 25 (d := d__law_calls) rfl
  exact ⟨fd, ["_law_number", "_law_stops", "_law_many"], F.kp, F.bindsN fun _ _ _ _ _ _ us hl => match us, hl with | [_, _, _], _ => rfl, fn_d (T := tb K) F sc__law_calls fun cdv A outer s H E hr => b__law_calls (txt X G c) ((ok__law_mixed X G c tbs).cl (He.glo_ok X G (c.d.fact 9 (f := .glo "_law_mixed") rfl))) cdv A outer s H E hr⟩
theorem ok__law_shape {base : Heap} (X : K.In h) (G : h.Ns mainGlobals mg) (c : Mp.SaysL fa fn tfL exK h K) (tbs : ∀ p ∈ tfL, LamX.TabB base mg (He.cT K p).1 (He.cT K p).2) : Okd (tb K) P w mg base (He.fAd K ("_law_shape", none)) 1 1 f__law_shape := by
  obtain ⟨fd, F⟩ := c.d.def_ 26 (d := d__law_shape) rfl
  exact ⟨fd, ["_law_thing"], F.kp, F.bindsN fun _ _ _ _ _ _ us hl => match us, hl with | [_], _ => rfl, fn_d (T := tb K) F sc__law_shape fun cdv A outer s H E hr => b__law_shape (txt X G c)  cdv A outer s H E hr⟩
theorem ok__law_due {base : Heap} (X : K.In h) (G : h.Ns mainGlobals mg) (c : Mp.SaysL fa fn tfL exK h K) (tbs : ∀ p ∈ tfL, LamX.TabB base mg (He.cT K p).1 (He.cT K p).2) : Okd (tb K) P w mg base (He.fAd K ("_law_due", none)) 2 5 f__law_due := by
  obtain ⟨fd, F⟩ := c.d.def_ 27 (d := d__law_due) rfl
  exact ⟨fd, ["_law_stops", "_law_taken", "_law_name_here", "_law_rule", "_law_calls_here"], F.kp, F.bindsN fun _ _ _ _ _ _ us hl => match us, hl with | [_, _, _, _, _], _ => rfl, fn_d (T := tb K) F sc__law_due fun cdv A outer s H E hr => b__law_due (txt X G c) ((ok__law_is_name X G c tbs).cl (He.glo_ok X G (c.d.fact 12 (f := .glo "_law_is_name") rfl))) ((ok__law_shape X G c tbs).cl (He.glo_ok X G (c.d.fact 15 (f := .glo "_law_shape") rfl))) ((ok__law_among X G c tbs).cl (He.glo_ok X G (c.d.fact 10 (f := .glo "_law_among") rfl))) cdv A outer s H E hr⟩
theorem ok__law_bad_call {base : Heap} (X : K.In h) (G : h.Ns mainGlobals mg) (c : Mp.SaysL fa fn tfL exK h K) (tbs : ∀ p ∈ tfL, LamX.TabB base mg (He.cT K p).1 (He.cT K p).2) : Okd (tb K) P w mg base (He.fAd K ("_law_bad_call", none)) 1 3 f__law_bad_call := by
  obtain ⟨fd, F⟩ := c.d.def_ 28 (d := d__law_bad_call) rfl
  exact ⟨fd, ["_law_call", "_law_ahead", "_law_number"], F.kp, F.bindsN fun _ _ _ _ _ _ us hl => match us, hl with | [_, _, _], _ => rfl, fn_d (T := tb K) F sc__law_bad_call fun cdv A outer s H E hr => b__law_bad_call (txt X G c)  cdv A outer s H E hr⟩
theorem ok__law_spoilt {base : Heap} (X : K.In h) (G : h.Ns mainGlobals mg) (c : Mp.SaysL fa fn tfL exK h K) (tbs : ∀ p ∈ tfL, LamX.TabB base mg (He.cT K p).1 (He.cT K p).2) : Okd (tb K) P w mg base (He.fAd K ("_law_spoilt", none)) 2 2 f__law_spoilt := by
  obtain ⟨fd, F⟩ := c.d.def_ 29 (d := d__law_spoilt) rfl
  exact ⟨fd, ["_law_given", "_law_number"], F.kp, F.bindsN fun _ _ _ _ _ _ us hl => match us, hl with | [_, _], _ => rfl, fn_d (T := tb K) F sc__law_spoilt fun cdv A outer s H E hr => b__law_spoilt (txt X G c) ((ok__law_among X G c tbs).cl (He.glo_ok X G (c.d.fact 10 (f := .glo "_law_among") rfl))) ((ok__law_bad_call X G c tbs).cl (He.glo_ok X G (c.d.fact 17 (f := .glo "_law_bad_call") rfl))) cdv A outer s H E hr⟩
theorem ok__law_tried {base : Heap} (X : K.In h) (G : h.Ns mainGlobals mg) (c : Mp.SaysL fa fn tfL exK h K) (tbs : ∀ p ∈ tfL, LamX.TabB base mg (He.cT K p).1 (He.cT K p).2) : Okd (tb K) P w mg base (He.fAd K ("_law_tried", none)) 7 2 f__law_tried := by
  obtain ⟨fd, F⟩ := c.d.def_ 30 (d := d__law_tried) rfl
  exact ⟨fd, ["_law_net", "_law_given"], F.kp, F.bindsN fun _ _ _ _ _ _ us hl => match us, hl with | [_, _], _ => rfl, fn_dL (T := tb K) (p0 := ("_law_tried", none)) F sc__law_tried fun cdv A outer s H E hr hcd => b__law_tried (txt X G c) (okl__law_said X G c tbs (He.glo_ok X G (c.d.fact 13 (f := .glo "_law_said") rfl))) (tbs _ (List.mem_of_getElem? (i := 0) rfl)) ((ok_Net_add_trip X G c tbs).mc ((txt X G c).ob.cls 20 (by decide)) (mo_ok (mot c) (c := "Net") (m := "add_trip") (b := "Net") (by decide +kernel))) cdv A outer s H E hr hcd⟩
theorem ok__law_borders {base : Heap} (X : K.In h) (G : h.Ns mainGlobals mg) (c : Mp.SaysL fa fn tfL exK h K) (tbs : ∀ p ∈ tfL, LamX.TabB base mg (He.cT K p).1 (He.cT K p).2) : Okd (tb K) P w mg base (He.fAd K ("_law_borders", none)) 8 2 f__law_borders := by
  obtain ⟨fd, F⟩ := c.d.def_ 31 (d := d__law_borders) rfl
  exact ⟨fd, ["_law_net", "_law_stops"], F.kp, F.bindsN fun _ _ _ _ _ _ us hl => match us, hl with | [_, _], _ => rfl, fn_d (T := tb K) F sc__law_borders fun cdv A outer s H E hr => b__law_borders (txt X G c) ((ok__law_tried X G c tbs).cl (He.glo_ok X G (c.d.fact 19 (f := .glo "_law_tried") rfl))) ((ok_Net_calls X G c tbs).mc ((txt X G c).ob.cls 20 (by decide)) (mo_ok (mot c) (c := "Net") (m := "calls") (b := "Net") (by decide +kernel))) cdv A outer s H E hr⟩
theorem facts (X : K.In h) (G : h.Ns mainGlobals mg) (hfa : mg ("law" : Str) = some (.ref f)) (c : Mp.SaysL fa fn tfL exK h K) :
    ∃ fd : FuncData, (∀ (s : Shared) (v : Value), BindsTo s fd ⟨[v], []⟩ [("_law_script", v)]) ∧ ∀ base : Heap, K.In base → base.Ns mainGlobals mg → (∀ p ∈ tfL, LamX.TabB base mg (He.cT K p).1 (He.cT K p).2) → FnOk P w K mg base (L2.CX P w) 9 f fd ["_law_script"] (spD (tb K) 1 f_law) := by
  obtain ⟨fd, F⟩ := c.d.def_ 32 (d := d_law) rfl
  have e := hfa.symm.trans (He.glo_ok X G (c.d.fact 21 (f := .glo "law") rfl))
  cases e
  have b := FunD.bindsA (ps := ["_law_script"]) F fun _ _ _ _ _ _ us hl => match us, hl with | [_], _ => rfl
  exact ⟨fd, fun s v => b s [v] rfl, fun base _ _ tbs => fn_d (T := tb K) F sc_law fun cdv A outer s H E hr => b_law (txt X G c) ((ok__law_cell_at X G c tbs).cl (He.glo_ok X G (c.d.fact 8 (f := .glo "_law_cell_at") rfl))) ((ok__law_mixed X G c tbs).cl (He.glo_ok X G (c.d.fact 9 (f := .glo "_law_mixed") rfl))) ((ok__law_name X G c tbs).cl (He.glo_ok X G (c.d.fact 11 (f := .glo "_law_name") rfl))) ((ok__law_calls X G c tbs).cl (He.glo_ok X G (c.d.fact 14 (f := .glo "_law_calls") rfl))) ((ok__law_spoilt X G c tbs).cl (He.glo_ok X G (c.d.fact 18 (f := .glo "_law_spoilt") rfl))) ((ok__law_due X G c tbs).cl (He.glo_ok X G (c.d.fact 16 (f := .glo "_law_due") rfl))) ((ok__law_tried X G c tbs).cl (He.glo_ok X G (c.d.fact 19 (f := .glo "_law_tried") rfl))) ((ok__law_borders X G c tbs).cl (He.glo_ok X G (c.d.fact 20 (f := .glo "_law_borders") rfl))) ((ok_Net_add_stop X G c tbs).mc ((txt X G c).ob.cls 20 (by decide)) (mo_ok (mot c) (c := "Net") (m := "add_stop") (b := "Net") (by decide +kernel))) ((ok_Net_add_rule X G c tbs).mc ((txt X G c).ob.cls 20 (by decide)) (mo_ok (mot c) (c := "Net") (m := "add_rule") (b := "Net") (by decide +kernel))) ((ok_Net_add_trip X G c tbs).mc ((txt X G c).ob.cls 20 (by decide)) (mo_ok (mot c) (c := "Net") (m := "add_trip") (b := "Net") (by decide +kernel))) ((ok_Net_trips X G c tbs).mc ((txt X G c).ob.cls 20 (by decide)) (mo_ok (mot c) (c := "Net") (m := "trips") (b := "Net") (by decide +kernel))) ((ok_Net_calls X G c tbs).mc ((txt X G c).ob.cls 20 (by decide)) (mo_ok (mot c) (c := "Net") (m := "calls") (b := "Net") (by decide +kernel))) ((ok_Net_rule_name X G c tbs).mc ((txt X G c).ob.cls 20 (by decide)) (mo_ok (mot c) (c := "Net") (m := "rule_name") (b := "Net") (by decide +kernel))) ((ok_Net___init__ X G c tbs).mkr (He.mkr_ok (c.d.fact 22 (f := .mkr "Net") rfl)) (He.glo_ok X G (c.d.fact 64 (f := .glo "Net") rfl))) ((ok_Week___init__ X G c tbs).mkr (He.mkr_ok (c.d.fact 23 (f := .mkr "Week") rfl)) (He.glo_ok X G (c.d.fact 63 (f := .glo "Week") rfl))) cdv A outer s H E hr⟩
end
end Rb
/-! ### the end -/
open PySem PySem.W PySem.Calls PyProof.Rows in
theorem PySem.Challenge.cw_roadbook_k07_trips_refused_holds : PySem.Challenge.rw_roadbook_k07_trips_refused.Holds := by
  w_on; o_law
  refine HandSHeadRun.head_any (r := OpenLaw.row PySem.Challenge.rw_roadbook_k07_trips_refused) (q := view (OpenLaw.row PySem.Challenge.rw_roadbook_k07_trips_refused).prog [56]) (H := Rb.hk) (ob := Rb.ob) (M := 8000) (loose := Rb.loose) (d := HandSHeadRun.topDef (OpenLaw.row PySem.Challenge.rw_roadbook_k07_trips_refused).prog 56) (kwd := []) Rb.ob_eq
    (by kernel_rfl) (fun s => by kernel_rfl) Rb.run (by kernel_rfl) (by kernel_rfl) (by kernel_rfl) (by rfl) (by first | assumption | decide +kernel) (by decide +kernel) ⟨rfl, rfl, rfl, rfl, rfl, by decide +kernel⟩ ?hw ?hc
  case hw => w_witness2
  case hc =>
    refine Mp.law_walksL (l := PySem.Challenge.rw_roadbook_k07_trips_refused) (k := 9) (x := "_law_script") rfl (by kernel_rfl) ⟨rfl, by decide, by decide⟩ ?F
    intro w mg fa h Y G hmg0
    obtain ⟨K, KX, c⟩ := Y
    have hmg : mg ("law" : PySem.Str) = some (.ref fa) := by
      have e : (HandSHeadRun.topDef (OpenLaw.row PySem.Challenge.rw_roadbook_k07_trips_refused).prog 56).name = ("law" : PySem.Str) := by kernel_rfl
      rw [← e]; exact hmg0
    obtain ⟨fd, hb, hF⟩ := Rb.facts (P := (PySem.Challenge.rw_roadbook_k07_trips_refused).prog) (w := w) KX G hmg c
    exact ⟨Rb.tb K, Rb.fa, Rb.fn, Rb.tfL, Rb.exK, fd, Rb.f_law, KX, c, fun i hi => (match i, hi with | 0, _ => ⟨_, rfl, rfl⟩), hb, fun ns hl => Rb.pure_law ns hl, hF⟩
