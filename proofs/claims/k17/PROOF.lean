import PyProof.Rows.All
import Wide.All
import OpenK.AllK
import Wide.FinOn
import HandS.ForMost
import HandS.Exc
import HandS.TryOnly
import HandS.ExcOwn
import HandS.WordsExc
import HandS.IsInst
import HandS.ExcIs
import HandS.CallSlots
import HandS.Defaults
import HandS.StrMore
import HandS.FStr
import HandS.Replace
import HandS.HeadEnd
import HandS.Head0
import HandS.Head1
import HandS.Head2
import HandS.HeadHook1
import HandS.HeadHook2
import HandS.HeadHook3
import HandS.HeadHook4
import HandS.Walk
import HandS.Zip
import HandS.Flow
import HandS.SetFor
import HandS.Conv
import HandS.ReplaceLit
import HandS.List
import HandS.New
import HandS.TupSets
import HandS.SortKw
import KE.DataMinMax
import HandS.Codes
import HandS.ListEq
import HandS.Style
import PySem.Challenge.RW_roadbook_k17_zones_and_tickets
set_option Elab.async false
set_option linter.all false
set_option maxRecDepth 100000
set_option maxHeartbeats 4000000
/-! # MpA -/
namespace Mp
open PySem PySem.Spec L2

/-! ## deep values, cells -/
inductive D where
  | non | bl (b : Bool) | int (i : Int) | str (s : List Nat)
  | tup (xs : List D) | lst (xs : List D) | scr (ns : List Int) | dct (ks vs : List D)
  | obj (c : Nat) (ns : List Nat) (vs : List D)
  | loc (n : Nat) | exc (c : Nat) | cls (c : Nat) | ty (n : String)
instance : Inhabited D := ⟨.non⟩
inductive Cell where
  | dead | lst (xs : List D) | dct (ks vs : List D) | obj (c : Nat) (ns : List Nat) (vs : List D)
abbrev Sto := List Cell
abbrev Env := List (Option D)
def Cell.live : Cell → Bool
  | .dead => false
  | _ => true
/-- codes to a text -/
def S (cs : List Nat) : Str := ⟨cs.toArray⟩
theorem S_len (cs : List Nat) : (S cs).length = cs.length := by simp [S, Str.length]
theorem S_inj {a b : List Nat} (h : S a = S b) : a = b := by
  have e : (S a).cps.toList = (S b).cps.toList := by rw [h]
  simpa [S] using e
theorem S_cat (a b : List Nat) : S a ++ S b = S (a ++ b) := by
  show (⟨a.toArray ++ b.toArray⟩ : Str) = ⟨(a ++ b).toArray⟩
  simp
/-- the tables: the written part, where classes stand, the fields' names -/
structure Tb where
  K : PySem.W.Frag
  ca : Nat → Addr
  fm : Nat → Str

/-- a caught exception that is kept as a value -/
def ExV (cls : Value) (a : Addr) : HO := .ext fun h => ∃ oe : Obj, h.get? a = some oe ∧ Zc cls none oe ∧ ∃ vs, oe.data = .fields vs

def kD : Key → D
  | .inl i => .int i
  | .inr x => .str x.cps.toList
mutual
/-- v stands for the deep value, over the part F of the heap that does not change; ι: where the cells are -/
def Rp (T : Tb) (F : Hp) (ι : List Addr) : D → V → Prop
  | .non, v => v = .non
  | .bl b, v => v = .bl b
  | .int i, v => v = .int i
  | .str s, v => v = .str (S s)
  | .tup xs, v => ∃ a vs, v = .ref a ∧ F a = some (.tup vs) ∧ Rps T F ι xs vs
  | .lst xs, v => ∃ a vs, v = .ref a ∧ F a = some (.lst vs) ∧ Rps T F ι xs vs
  | .scr ns, v => ∃ a, v = .ref a ∧ SqL T.K F a (ns.map V.int)
  | .dct ks xs, v => ∃ a kvs, v = .ref a ∧ Rd F a (.dK kvs) ∧ ks = kvs.map (fun p => kD p.1) ∧ Rps T F ι xs (kvs.map (·.2))
  | .obj c ns xs, v => ∃ a dx fs, v = .ref a ∧ F a = some (.ins (T.ca c) dx fs) ∧ fs.map (·.1) = ns.map T.fm ∧ Rps T F ι xs (fs.map (·.2))
  | .loc n, v => ∃ a, ι[n]? = some a ∧ v = .ref a
  | .exc c, v => ∃ a, v = .ref a ∧ F a = some (ExV (.ref (T.ca c)) a)
  | .cls c, v => v = .ref (T.ca c)
  | .ty n, v => v = .ty n
def Rps (T : Tb) (F : Hp) (ι : List Addr) : List D → List V → Prop
  | [], vs => vs = []
  | x :: xs, vs => ∃ v r, vs = v :: r ∧ Rp T F ι x v ∧ Rps T F ι xs r
end
def Grow (F : Hp) (ι : List Addr) (F' : Hp) (ι' : List Addr) : Prop := (∀ a o, F a = some o → F' a = some o) ∧ ∃ more, ι' = ι ++ more
theorem Grow.refl (F : Hp) (ι : List Addr) : Grow F ι F ι := ⟨fun _ _ h => h, [], by simp⟩
theorem Grow.trans {F F1 F2 : Hp} {ι ι1 ι2 : List Addr} (a : Grow F ι F1 ι1) (b : Grow F1 ι1 F2 ι2) : Grow F ι F2 ι2 := by
  obtain ⟨a1, m, e⟩ := a
  obtain ⟨b1, n, f⟩ := b
  exact ⟨fun x o h => b1 x o (a1 x o h), m ++ n, by rw [f, e, List.append_assoc]⟩
theorem Grow.at {F F' : Hp} {ι ι' : List Addr} (g : Grow F ι F' ι') {n : Nat} {a : Addr} (h : ι[n]? = some a) : ι'[n]? = some a := by
  obtain ⟨_, m, rfl⟩ := g
  rw [List.getElem?_append_left (List.getElem?_eq_some_iff.mp h).1]
  exact h
theorem rd_mono {F F' : Hp} (g : ∀ a o, F a = some o → F' a = some o) {a : Addr} {u : HO} (h : Rd F a u) : Rd F' a u := by
  rcases h with h | ⟨o, h⟩
  · exact .inl (g _ _ h)
  · exact .inr ⟨o, g _ _ h⟩
theorem sql_mono {K : PySem.W.Frag} {F F' : Hp} (g : ∀ a o, F a = some o → F' a = some o) {a : Addr} {xs : List V} (h : SqL K F a xs) : SqL K F' a xs := by
  rcases h with h | h
  · exact .inl (rd_mono g h)
  · exact .inr h
mutual
theorem Rp.mono {T : Tb} {F F' : Hp} {ι ι' : List Addr} (g : Grow F ι F' ι') : ∀ {d : D} {v : V}, Rp T F ι d v → Rp T F' ι' d v
  | .non, _, h => by unfold Rp at h ⊢; exact h
  | .bl _, _, h => by unfold Rp at h ⊢; exact h
  | .int _, _, h => by unfold Rp at h ⊢; exact h
  | .str _, _, h => by unfold Rp at h ⊢; exact h
  | .tup xs, v, h => by
    unfold Rp at h ⊢
    obtain ⟨a, vs, e, q, r⟩ := h
    exact ⟨a, vs, e, g.1 _ _ q, Rps.mono g r⟩
  | .lst xs, v, h => by
    unfold Rp at h ⊢
    obtain ⟨a, vs, e, q, r⟩ := h
    exact ⟨a, vs, e, g.1 _ _ q, Rps.mono g r⟩
  | .scr ns, v, h => by
    unfold Rp at h ⊢
    obtain ⟨a, e, q⟩ := h
    exact ⟨a, e, sql_mono g.1 q⟩
  | .dct ks xs, v, h => by
    unfold Rp at h ⊢
    obtain ⟨a, kvs, e, q, k, r⟩ := h
    exact ⟨a, kvs, e, rd_mono g.1 q, k, Rps.mono g r⟩
  | .obj c ns xs, v, h => by
    unfold Rp at h ⊢
    obtain ⟨a, dx, fs, e, q, k, r⟩ := h
    exact ⟨a, dx, fs, e, g.1 _ _ q, k, Rps.mono g r⟩
  | .loc n, v, h => by
    unfold Rp at h ⊢
    obtain ⟨a, q, e⟩ := h
    exact ⟨a, g.at q, e⟩
  | .exc c, v, h => by
    unfold Rp at h ⊢
    obtain ⟨a, e, q⟩ := h
    exact ⟨a, e, g.1 _ _ q⟩
  | .cls _, _, h => by unfold Rp at h ⊢; exact h
  | .ty _, _, h => by unfold Rp at h ⊢; exact h
theorem Rps.mono {T : Tb} {F F' : Hp} {ι ι' : List Addr} (g : Grow F ι F' ι') : ∀ {ds : List D} {vs : List V}, Rps T F ι ds vs → Rps T F' ι' ds vs
  | [], _, h => by unfold Rps at h ⊢; exact h
  | x :: xs, vs, h => by
    unfold Rps at h ⊢
    obtain ⟨v, r, e, p, q⟩ := h
    exact ⟨v, r, e, Rp.mono g p, Rps.mono g q⟩
end
theorem Rps.len {T : Tb} {F : Hp} {ι : List Addr} : ∀ {ds : List D} {vs : List V}, Rps T F ι ds vs → ds.length = vs.length
  | [], _, h => by unfold Rps at h; subst h; rfl
  | x :: xs, vs, h => by
    unfold Rps at h
    obtain ⟨v, r, rfl, _, q⟩ := h
    simp [q.len]
theorem Rps.get {T : Tb} {F : Hp} {ι : List Addr} : ∀ {ds : List D} {vs : List V} {i : Nat} {d : D}, Rps T F ι ds vs → ds[i]? = some d → ∃ v, vs[i]? = some v ∧ Rp T F ι d v
  | [], _, _, _, _, e => by simp at e
  | x :: xs, vs, 0, d, h, e => by
    unfold Rps at h
    obtain ⟨v, r, rfl, p, _⟩ := h
    simp at e
    subst e
    exact ⟨v, rfl, p⟩
  | x :: xs, vs, i + 1, d, h, e => by
    unfold Rps at h
    obtain ⟨v, r, rfl, _, q⟩ := h
    obtain ⟨u, e1, e2⟩ := q.get (i := i) (by simpa using e)
    exact ⟨u, by simpa using e1, e2⟩
theorem Rps.nil {T : Tb} {F : Hp} {ι : List Addr} : Rps T F ι [] [] := by unfold Rps; rfl
theorem Rps.cons {T : Tb} {F : Hp} {ι : List Addr} {d : D} {v : V} {ds : List D} {vs : List V} (h : Rp T F ι d v) (r : Rps T F ι ds vs) : Rps T F ι (d :: ds) (v :: vs) := by
  unfold Rps
  exact ⟨v, vs, rfl, h, r⟩
theorem Rps.app {T : Tb} {F : Hp} {ι : List Addr} : ∀ {ds es : List D} {vs us : List V}, Rps T F ι ds vs → Rps T F ι es us → Rps T F ι (ds ++ es) (vs ++ us)
  | [], _, _, _, h, k => by unfold Rps at h; subst h; exact k
  | x :: xs, es, vs, us, h, k => by
    unfold Rps at h
    obtain ⟨v, r, rfl, p, q⟩ := h
    exact .cons p (q.app k)
theorem Rps.take {T : Tb} {F : Hp} {ι : List Addr} : ∀ {ds : List D} {vs : List V} (n : Nat), Rps T F ι ds vs → Rps T F ι (ds.take n) (vs.take n)
  | _, _, 0, _ => by simpa using Rps.nil
  | [], _, n + 1, h => by unfold Rps at h; subst h; simpa using Rps.nil
  | x :: xs, vs, n + 1, h => by
    unfold Rps at h
    obtain ⟨v, r, rfl, p, q⟩ := h
    simpa using Rps.cons p (q.take n)
theorem Rps.drop {T : Tb} {F : Hp} {ι : List Addr} : ∀ {ds : List D} {vs : List V} (n : Nat), Rps T F ι ds vs → Rps T F ι (ds.drop n) (vs.drop n)
  | _, _, 0, h => by simpa using h
  | [], _, n + 1, h => by unfold Rps at h; subst h; simpa using Rps.nil
  | x :: xs, vs, n + 1, h => by
    unfold Rps at h
    obtain ⟨v, r, rfl, p, q⟩ := h
    simpa using q.drop n
theorem Rps.set {T : Tb} {F : Hp} {ι : List Addr} {d : D} {v : V} (h : Rp T F ι d v) : ∀ {ds : List D} {vs : List V} (n : Nat), Rps T F ι ds vs → Rps T F ι (ds.set n d) (vs.set n v)
  | [], _, n, k => by unfold Rps at k; subst k; simpa using Rps.nil
  | x :: xs, vs, 0, k => by
    unfold Rps at k
    obtain ⟨v, r, rfl, p, q⟩ := k
    exact .cons h q
  | x :: xs, vs, n + 1, k => by
    unfold Rps at k
    obtain ⟨v, r, rfl, p, q⟩ := k
    exact .cons p (q.set h n)

/-! ## the store and the heap -/
def CellAt (T : Tb) (ι : List Addr) (F H : Hp) (a : Addr) : Cell → Prop
  | .dead => True
  | .lst xs => F a = none ∧ ∃ vs, H a = some (.lst vs) ∧ Rps T F ι xs vs
  | .dct ks xs => F a = none ∧ ∃ kvs, H a = some (.dK kvs) ∧ ks = kvs.map (fun p => kD p.1) ∧ Rps T F ι xs (kvs.map (·.2))
  | .obj c ns xs => F a = none ∧ ∃ dx fs, H a = some (.ins (T.ca c) dx fs) ∧ fs.map (·.1) = ns.map T.fm ∧ Rps T F ι xs (fs.map (·.2))
structure RelH (T : Tb) (P : Hp) (ι : List Addr) (F : Hp) (s : Sto) (H : Hp) : Prop where
  sub : ∀ a o, F a = some o → H a = some o
  pro : ∀ a o, P a = some o → H a = some o
  dis : ∀ a o, P a = some o → F a = none
  len : ι.length = s.length
  cell : ∀ (n : Nat) c a, s[n]? = some c → ι[n]? = some a → CellAt T ι F H a c
  npr : ∀ (n : Nat) c a, s[n]? = some c → c.live = true → ι[n]? = some a → P a = none
  nod : ∀ (n m : Nat) c c' a, s[n]? = some c → s[m]? = some c' → c.live = true → c'.live = true → ι[n]? = some a → ι[m]? = some a → n = m
structure REnv (T : Tb) (F : Hp) (ι : List Addr) (δ : Env) (σ : L2.St) : Prop where
  len : δ.length = σ.length
  at_ : ∀ (i : Nat) d, δ[i]? = some (some d) → ∃ v, σ[i]? = some (some v) ∧ Rp T F ι d v
theorem REnv.mono {T : Tb} {F F' : Hp} {ι ι' : List Addr} {δ : Env} {σ : L2.St} (e : REnv T F ι δ σ) (g : Grow F ι F' ι') : REnv T F' ι' δ σ :=
  ⟨e.len, fun i d h => let ⟨v, e1, e2⟩ := e.at_ i d h; ⟨v, e1, e2.mono g⟩⟩
theorem REnv.set {T : Tb} {F : Hp} {ι : List Addr} {δ : Env} {σ : L2.St} {d : D} {v : V} (e : REnv T F ι δ σ) (h : Rp T F ι d v) (i : Nat) : REnv T F ι (δ.set i (some d)) (σ.set i (some v)) := by
  refine ⟨by simp [e.len], fun j d' hj => ?_⟩
  by_cases c : i = j
  · subst c
    have hl : i < δ.length := by
      have := (List.getElem?_eq_some_iff.mp hj).1
      simpa using this
    rw [List.getElem?_set_self hl] at hj
    cases hj
    exact ⟨v, by rw [List.getElem?_set_self (by rw [← e.len]; exact hl)], h⟩
  · rw [List.getElem?_set_ne c] at hj
    obtain ⟨u, e1, e2⟩ := e.at_ j d' hj
    exact ⟨u, by rw [List.getElem?_set_ne c]; exact e1, e2⟩
theorem REnv.unset {T : Tb} {F : Hp} {ι : List Addr} {δ : Env} {σ : L2.St} {o : Option V} (e : REnv T F ι δ σ) (i : Nat) : REnv T F ι (δ.set i none) (σ.set i o) := by
  refine ⟨by simp [e.len], fun j d' hj => ?_⟩
  by_cases c : i = j
  · subst c
    have hl : i < δ.length := by
      have := (List.getElem?_eq_some_iff.mp hj).1
      simpa using this
    rw [List.getElem?_set_self hl] at hj
    cases hj
  · rw [List.getElem?_set_ne c] at hj
    obtain ⟨u, e1, e2⟩ := e.at_ j d' hj
    exact ⟨u, by rw [List.getElem?_set_ne c]; exact e1, e2⟩

section
variable {T : Tb} {P : Hp} {ι : List Addr} {F : Hp} {s : Sto} {H : Hp}
theorem CellAt.grow {ι' : List Addr} {F' H' : Hp} {a : Addr} {c : Cell} (h : CellAt T ι F H a c) (g : Grow F ι F' ι') (hF : c.live = true → F' a = F a) (hH : c.live = true → H' a = H a) : CellAt T ι' F' H' a c := by
  cases c with
  | dead => trivial
  | lst xs =>
    obtain ⟨h1, vs, h2, h3⟩ := h
    exact ⟨by rw [hF rfl]; exact h1, vs, by rw [hH rfl]; exact h2, h3.mono g⟩
  | dct ks xs =>
    obtain ⟨h1, vs, h2, h3, h4⟩ := h
    exact ⟨by rw [hF rfl]; exact h1, vs, by rw [hH rfl]; exact h2, h3, h4.mono g⟩
  | obj c ns xs =>
    obtain ⟨h1, dx, vs, h2, h3, h4⟩ := h
    exact ⟨by rw [hF rfl]; exact h1, dx, vs, by rw [hH rfl]; exact h2, h3, h4.mono g⟩
theorem CellAt.has {a : Addr} {c : Cell} (h : CellAt T ι F H a c) (hl : c.live = true) : ∃ o, H a = some o := by
  cases c with
  | dead => cases hl
  | lst xs => obtain ⟨_, vs, h2, _⟩ := h; exact ⟨_, h2⟩
  | dct ks xs => obtain ⟨_, vs, h2, _⟩ := h; exact ⟨_, h2⟩
  | obj c ns xs => obtain ⟨_, dx, vs, h2, _⟩ := h; exact ⟨_, h2⟩
theorem RelH.freeF (R : RelH T P ι F s H) {p : Addr} (h : H p = none) : F p = none := by
  cases e : F p with
  | none => rfl
  | some o => rw [R.sub _ _ e] at h; cases h
theorem RelH.freeP (R : RelH T P ι F s H) {p : Addr} (h : H p = none) : P p = none := by
  cases e : P p with
  | none => rfl
  | some o => rw [R.pro _ _ e] at h; cases h
theorem grow_new (hF : F p = none) (o : HO) : Grow F ι (upd F p o) ι := ⟨fun a u h => by rw [upd_ne (ne_of_none h hF)]; exact h, [], by simp⟩
/-- a new object that stays as it is -/
theorem RelH.new (R : RelH T P ι F s H) {p : Addr} (hp : H p = none) (o : HO) : RelH T P ι (upd F p o) s (upd H p o) where
  sub := fun a u h => by
    by_cases c : a = p
    · subst c; rw [upd_same] at h ⊢; exact h
    · rw [upd_ne c] at h ⊢; exact R.sub a u h
  pro := fun a u h => by
    have q := R.pro a u h
    rw [upd_ne (ne_of_none q hp)]; exact q
  dis := fun a u h => by
    have q := R.pro a u h
    rw [upd_ne (ne_of_none q hp)]; exact R.dis a u h
  len := R.len
  cell := fun n c a h1 h2 => by
    have q := R.cell n c a h1 h2
    refine q.grow (grow_new (R.freeF hp) o) (fun l => ?_) (fun l => ?_)
    all_goals
      obtain ⟨u, hu⟩ := q.has l
      exact upd_ne (ne_of_none hu hp)
  npr := R.npr
  nod := R.nod
/-- a new object that is ours, under protection -/
theorem RelH.newP (R : RelH T P ι F s H) {p : Addr} (hp : H p = none) (o : HO) : RelH T (upd P p o) ι F s (upd H p o) where
  sub := fun a u h => by
    have q := R.sub a u h
    rw [upd_ne (ne_of_none q hp)]; exact q
  pro := fun a u h => by
    by_cases c : a = p
    · subst c; rw [upd_same] at h ⊢; exact h
    · rw [upd_ne c] at h ⊢; exact R.pro a u h
  dis := fun a u h => by
    by_cases c : a = p
    · subst c; exact R.freeF hp
    · rw [upd_ne c] at h; exact R.dis a u h
  len := R.len
  cell := fun n c a h1 h2 => by
    have q := R.cell n c a h1 h2
    refine q.grow (Grow.refl _ _) (fun _ => rfl) (fun l => ?_)
    obtain ⟨u, hu⟩ := q.has l
    exact upd_ne (ne_of_none hu hp)
  npr := fun n c a h1 l h2 => by
    obtain ⟨u, hu⟩ := (R.cell n c a h1 h2).has l
    rw [upd_ne (ne_of_none hu hp)]; exact R.npr n c a h1 l h2
  nod := R.nod
theorem RelH.setP (R : RelH T P ι F s H) {p : Addr} {u : HO} (hp : P p = some u) (o : HO) : RelH T (upd P p o) ι F s (upd H p o) where
  sub := fun a u h => by
    have n : a ≠ p := fun z => by subst z; rw [R.dis _ _ hp] at h; cases h
    rw [upd_ne n]; exact R.sub a u h
  pro := fun a u h => by
    by_cases c : a = p
    · subst c; rw [upd_same] at h ⊢; exact h
    · rw [upd_ne c] at h ⊢; exact R.pro a u h
  dis := fun a v h => by
    by_cases c : a = p
    · subst c; exact R.dis _ _ hp
    · rw [upd_ne c] at h; exact R.dis a v h
  len := R.len
  cell := fun n c a h1 h2 => by
    have q := R.cell n c a h1 h2
    refine q.grow (Grow.refl _ _) (fun _ => rfl) (fun l => ?_)
    have hn := R.npr n c a h1 l h2
    exact upd_ne (fun z => by subst z; rw [hp] at hn; cases hn)
  npr := fun n c a h1 l h2 => by
    have hn := R.npr n c a h1 l h2
    rw [upd_ne (fun z => by subst z; rw [hp] at hn; cases hn)]; exact hn
  nod := R.nod
/-- what was under protection stays as it is from now on -/
theorem RelH.thaw {o : HO} {p : Addr} (R : RelH T (upd P p o) ι F s H) (hp : P p = none) : RelH T P ι (upd F p o) s H where
  sub := fun a u h => by
    by_cases c : a = p
    · subst c; rw [upd_same] at h; exact R.pro a u (by rw [upd_same]; exact h)
    · rw [upd_ne c] at h; exact R.sub a u h
  pro := fun a u h => R.pro a u (by rw [upd_ne (ne_of_none h hp)]; exact h)
  dis := fun a u h => by
    rw [upd_ne (ne_of_none h hp)]
    exact R.dis a u (by rw [upd_ne (ne_of_none h hp)]; exact h)
  len := R.len
  cell := fun n c a h1 h2 => by
    have q := R.cell n c a h1 h2
    have hF : F p = none := R.dis p o upd_same
    refine q.grow (grow_new hF o) (fun l => ?_) (fun _ => rfl)
    have hn := R.npr n c a h1 l h2
    exact upd_ne (fun z => by subst z; rw [upd_same] at hn; cases hn)
  npr := fun n c a h1 l h2 => by
    have hn := R.npr n c a h1 l h2
    have ne : a ≠ p := fun z => by subst z; rw [upd_same] at hn; cases hn
    rw [upd_ne ne] at hn; exact hn
  nod := R.nod
end
end Mp
/-! # MpB -/
namespace Mp
open PySem PySem.Spec L2

/-! ## results -/
inductive Res (α : Type) where
  | ok (a : α) (s : Sto) | exc (c : Nat) (s : Sto) | stuck
def Res.bind {α β : Type} : Res α → (α → Sto → Res β) → Res β
  | .ok a s, k => k a s
  | .exc c s, _ => .exc c s
  | .stuck, _ => .stuck
abbrev DE := Env → Sto → Res D
abbrev DT := Env → Sto → Res Bool
abbrev DA := Env → Sto → Res (List D)
def Post {α β : Type} (T : Tb) (P : Hp) (Rl : Hp → List Addr → α → β → Prop) (Q : β → Hp → Prop) (E : Nat → Hp → Prop) (F : Hp) (ι : List Addr) : Res α → Prop
  | .ok d s' => ∀ v H' ι' F', Grow F ι F' ι' → RelH T P ι' F' s' H' → Rl F' ι' d v → Q v H'
  | .exc c s' => ∀ H' ι' F', Grow F ι F' ι' → RelH T P ι' F' s' H' → E c H'
  | .stuck => False
abbrev eqR {α : Type} : Hp → List Addr → α → α → Prop := fun _ _ a b => a = b
def DenG {α β : Type} (T : Tb) (Rl : Hp → List Addr → α → β → Prop) (W : WX) (t : L2.St → Hp → (β → Hp → Prop) → Prop) (f : Env → Sto → Res α) : Prop :=
  ∀ σ H P ι F δ s Q, RelH T P ι F s H → REnv T F ι δ σ → Post T P Rl Q (fun c H' => W (.ref (T.ca c)) none σ H') F ι (f δ s) → t σ H Q
theorem Post.mono {α β : Type} {T : Tb} {P : Hp} {Rl : Hp → List Addr → α → β → Prop} {Q : β → Hp → Prop} {E : Nat → Hp → Prop} {F F1 : Hp} {ι ι1 : List Addr} {r : Res α} (g : Grow F ι F1 ι1) (h : Post T P Rl Q E F ι r) : Post T P Rl Q E F1 ι1 r := by
  cases r with
  | ok d s => exact fun v H' ι' F' g' => h v H' ι' F' (g.trans g')
  | exc c s => exact fun H' ι' F' g' => h H' ι' F' (g.trans g')
  | stuck => exact h
/-- the value is at hand -/
theorem Post.here {α β : Type} {T : Tb} {P : Hp} {Rl : Hp → List Addr → α → β → Prop} {Q : β → Hp → Prop} {E : Nat → Hp → Prop} {F : Hp} {ι : List Addr} {d : α} {s : Sto} {H : Hp} {v : β} (h : Post T P Rl Q E F ι (.ok d s)) (R : RelH T P ι F s H) (r : Rl F ι d v) : Q v H :=
  h v H ι F (Grow.refl _ _) R r
theorem Post.new {α : Type} {T : Tb} {P : Hp} {Rl : Hp → List Addr → α → V → Prop} {Q : V → Hp → Prop} {E : Nat → Hp → Prop} {F : Hp} {ι : List Addr} {d : α} {s : Sto} {H : Hp} {p : Addr} {o : HO} (h : Post T P Rl Q E F ι (.ok d s)) (R : RelH T P ι F s H) (hp : H p = none) (r : Grow F ι (upd F p o) ι → Rl (upd F p o) ι d (.ref p)) : Q (.ref p) (upd H p o) :=
  h _ _ _ _ (grow_new (R.freeF hp) o) (R.new hp o) (r (grow_new (R.freeF hp) o))
/-- one after another -/
theorem den_then {α β α2 β2 : Type} {T : Tb} {R1 : Hp → List Addr → α → β → Prop} {R2 : Hp → List Addr → α2 → β2 → Prop} {W : WX} {t : L2.St → Hp → (β → Hp → Prop) → Prop} {f : Env → Sto → Res α} {k : α → Sto → Res α2}
    {σ : L2.St} {H P : Hp} {ι : List Addr} {F : Hp} {δ : Env} {s : Sto} {Q : β2 → Hp → Prop} {G : β → Hp → Prop} (h1 : DenG T R1 W t f) (R : RelH T P ι F s H) (E : REnv T F ι δ σ)
    (post : Post T P R2 Q (fun c H' => W (.ref (T.ca c)) none σ H') F ι ((f δ s).bind k))
    (hk : ∀ x y H1 ι1 F1 s1, Grow F ι F1 ι1 → RelH T P ι1 F1 s1 H1 → REnv T F1 ι1 δ σ → R1 F1 ι1 x y → Post T P R2 Q (fun c H' => W (.ref (T.ca c)) none σ H') F1 ι1 (k x s1) → G y H1) : t σ H G := by
  refine h1 σ H P ι F δ s G R E ?_
  cases e : f δ s with
  | ok x s1 =>
    rw [e] at post
    exact fun v H' ι' F' g R' r => hk x v H' ι' F' s1 g R' (E.mono g) r (post.mono g)
  | exc c s1 =>
    rw [e] at post
    exact post
  | stuck =>
    rw [e] at post
    exact post

/-! ## judgements: a derivation in HandS and what it evaluates to -/
def PDe (T : Tb) (X : Cx) (e : Expr) (f : DE) : Prop := ∀ pn xe W, Takes (X.tr pn xe) W → ∃ t, PE (X.tr pn xe) e t ∧ DenG T (Rp T) W t f
def PDt (T : Tb) (X : Cx) (e : Expr) (f : DT) : Prop := ∀ pn xe W, Takes (X.tr pn xe) W → ∃ t, PT (X.tr pn xe) e t ∧ DenG T eqR W t f
abbrev RpsN (T : Tb) (n : Nat) : Hp → List Addr → List D → List V → Prop := fun F ι ds vs => Rps T F ι ds vs ∧ vs.length = n
def PDa (T : Tb) (X : Cx) (es : List Expr) (f : DA) : Prop := ∀ pn xe W, Takes (X.tr pn xe) W → ∃ t, PA (X.tr pn xe) es t ∧ DenG T (RpsN T es.length) W t f

/-! ## names and constants -/
def dVar (i : Nat) : DE := fun δ s => match δ[i]? with
  | some (some d) => .ok d s
  | _ => .stuck
def dC (d : D) : DE := fun _ s => .ok d s
section
variable {T : Tb} {X : Cx}
theorem d_var {x : Str} {pos : Pos} (i : Nat) (hN : X.N[i]? = some x := by rfl) (hv : Vis X.env.scope x := by first | exact Or.inl rfl | exact Or.inr (Or.inl rfl) | exact Or.inr (Or.inr rfl)) (hd : (x == ("__debug__" : Str)) = false := by decide)
    (hcd : (x == ("__classdict__" : Str)) = false := by decide) : PDe T X (.Name x pos) (dVar i) := by
  intro pn xe W tk
  refine ⟨_, pe_var (i := i) (X := X.tr pn xe) hN hv hd hcd, fun σ H P ι F δ s Q R E post => ?_⟩
  unfold dVar at post
  cases e : δ[i]? with
  | none => rw [e] at post; exact post.elim
  | some o =>
    cases o with
    | none => rw [e] at post; exact post.elim
    | some d =>
      rw [e] at post
      obtain ⟨v, e1, e2⟩ := E.at_ i d e
      exact ⟨v, e1, post.here R e2⟩
theorem den_c {W : WX} {d : D} {v : V} (h : ∀ F ι, Rp T F ι d v) : DenG T (Rp T) W (tC v) (dC d) := fun _ _ _ ι F _ _ _ R _ post => post.here R (h F ι)
theorem d_int {i j pos} : PDe T X (.Constant (.int i) j pos) (dC (.int i)) := fun pn xe W _ => ⟨_, pe_int, den_c fun _ _ => by unfold Rp; rfl⟩
theorem d_bl {b j pos} : PDe T X (.Constant (.bool b) j pos) (dC (.bl b)) := fun pn xe W _ => ⟨_, pe_bl, den_c fun _ _ => by unfold Rp; rfl⟩
theorem d_non {j pos} : PDe T X (.Constant .none j pos) (dC .non) := fun pn xe W _ => ⟨_, pe_non, den_c fun _ _ => by unfold Rp; rfl⟩
theorem d_str {x : Str} {j pos} (cs : List Nat) (h : x = S cs) : PDe T X (.Constant (.str x) j pos) (dC (.str cs)) := fun pn xe W _ => ⟨_, pe_str, den_c fun _ _ => by unfold Rp; rw [h]⟩
/-- a module's constant -/
theorem d_glob {x : Str} {pos : Pos} {d : D} {v : V} (h : ∀ F ι, Rp T F ι d v) (hm : ∃ u, X.mg x = some u ∧ RelV v u) (hg : Gl X x := by rfl) (hd : (x == ("__debug__" : Str)) = false := by decide) : PDe T X (.Name x pos) (dC d) := fun pn xe W _ => by
  obtain ⟨u, h1, h2⟩ := hm
  exact ⟨_, pe_glob (X := X.tr pn xe) hg h1 h2 hd, den_c h⟩
/-- a built-in class as a value -/
theorem d_ty {x : Str} {pos : Pos} (n : String) (hm : X.mg x = none) (hv : bootBuiltins x = some (.type n)) (hg : Gl X x := by rfl) (hn : x ≠ "__name__" := by decide) (hd : (x == ("__debug__" : Str)) = false := by decide) : PDe T X (.Name x pos) (dC (.ty n)) := fun pn xe W _ =>
  ⟨_, pe_bltn (X := X.tr pn xe) (v := .ty n) hg hm hv rfl hn hd, den_c fun _ _ => by unfold Rp; rfl⟩
/-- a class of the text as a value -/
theorem d_cls {x : Str} {pos : Pos} (c : Nat) (hm : X.mg x = some (.ref (T.ca c))) (hg : Gl X x := by rfl) (hd : (x == ("__debug__" : Str)) = false := by decide) : PDe T X (.Name x pos) (dC (.cls c)) := fun pn xe W _ =>
  ⟨_, pe_glob (X := X.tr pn xe) (v := .ref (T.ca c)) hg hm rfl hd, den_c fun _ _ => by unfold Rp; rfl⟩

/-! ## arguments -/
def aNil : DA := fun _ s => .ok [] s
def aCons (f : DE) (g : DA) : DA := fun δ s => (f δ s).bind fun x s1 => (g δ s1).bind fun xs s2 => .ok (x :: xs) s2
theorem a_nil : PDa T X [] aNil := fun pn xe W _ => ⟨_, pa_nil, fun _ _ _ _ _ _ _ _ R _ post => post.here R ⟨.nil, rfl⟩⟩
theorem a_cons {e : Expr} {es : List Expr} {f : DE} {g : DA} (he : PDe T X e f) (hr : PDa T X es g) (hs : starEach (e :: es) X.env = (false, eval e X.env) :: starEach es X.env := by rfl) : PDa T X (e :: es) (aCons f g) := fun pn xe W tk => by
  obtain ⟨t1, p1, d1⟩ := he pn xe W tk
  obtain ⟨t2, p2, d2⟩ := hr pn xe W tk
  refine ⟨_, pa_cons (X := X.tr pn xe) p1 p2 hs, fun σ H P ι F δ s Q R E post => ?_⟩
  show t1 σ H _
  refine den_then d1 R E post fun x y H1 ι1 F1 s1 g1 R1 E1 r1 post1 => ?_
  refine den_then d2 R1 E1 post1 fun xs ys H2 ι2 F2 s2 g2 R2 E2 r2 post2 => ?_
  exact post2.here R2 ⟨.cons (r1.mono g2) r2.1, congrArg Nat.succ r2.2⟩

/-! ## operators -/
abbrev DOp := D → D → Sto → Res D
def dOp (op : DOp) (fa fb : DE) : DE := fun δ s => (fa δ s).bind fun x s1 => (fb δ s1).bind fun y s2 => op x y s2
/-- what an operator's reading asks follows from the deep one -/
def DenOp (T : Tb) (r : R2) (op : DOp) : Prop := ∀ x y dx dy H P ι F s Q E, RelH T P ι F s H → Rp T F ι dx x → Rp T F ι dy y → Post T P (Rp T) Q E F ι (op dx dy s) → r x y H Q
theorem den_op {W : WX} {r : R2} {op : DOp} {ta tb : TE} {fa fb : DE} (ho : DenOp T r op) (ha : DenG T (Rp T) W ta fa) (hb : DenG T (Rp T) W tb fb) : DenG T (Rp T) W (tOp r ta tb) (dOp op fa fb) := fun σ H P ι F δ s Q R E post => by
  show ta σ H _
  refine den_then ha R E post fun x y H1 ι1 F1 s1 g1 R1 E1 r1 post1 => ?_
  refine den_then hb R1 E1 post1 fun x2 y2 H2 ι2 F2 s2 g2 R2 E2 r2 post2 => ?_
  exact ho _ _ _ _ _ _ _ _ _ _ _ R2 (r1.mono g2) r2 post2
theorem d_op {a b : Expr} {pos : Pos} {op : Operator} {r : R2} {o : DOp} {fa fb : DE} (hr : ∀ pn xe, OpR (X.tr pn xe) (binaryOp op) r) (ho : DenOp T r o) (ha : PDe T X a fa) (hb : PDe T X b fb) : PDe T X (.BinOp a op b pos) (dOp o fa fb) := fun pn xe W tk => by
  obtain ⟨t1, p1, d1⟩ := ha pn xe W tk
  obtain ⟨t2, p2, d2⟩ := hb pn xe W tk
  exact ⟨_, pe_op (hr pn xe) p1 p2, den_op ho d1 d2⟩
theorem d_cmp {a b : Expr} {pos : Pos} {op : CmpOp} {r : R2} {o : DOp} {fa fb : DE} (hr : ∀ pn xe, OpR (X.tr pn xe) (compareOp op) r) (ho : DenOp T r o) (ha : PDe T X a fa) (hb : PDe T X b fb) (hm : behindInMarks op b = false) : PDe T X (.Compare a [op] [b] pos) (dOp o fa fb) := fun pn xe W tk => by
  obtain ⟨t1, p1, d1⟩ := ha pn xe W tk
  obtain ⟨t2, p2, d2⟩ := hb pn xe W tk
  exact ⟨_, pe_cmpR (hr pn xe) p1 p2 hm, den_op ho d1 d2⟩
/-- a value that is True or False, as a test -/
def tst (f : DE) : DT := fun δ s => (f δ s).bind fun x s1 => match x with
  | .bl b => .ok b s1
  | _ => .stuck
theorem den_tst {W : WX} {t : TE} {f : DE} (h : DenG T (Rp T) W t f) : DenG T eqR W (fun σ H Q => t σ H fun x H' => ∃ k, x = .bl k ∧ Q k H') (tst f) := fun σ H P ι F δ s Q R E post => by
  refine den_then h R E post fun x y H1 ι1 F1 s1 g1 R1 E1 r1 post1 => ?_
  cases x with
  | bl b =>
    unfold Rp at r1
    exact ⟨b, r1, post1.here R1 rfl⟩
  | _ => exact post1.elim
theorem t_cmp {a b : Expr} {pos : Pos} {op : CmpOp} {r : R2} {o : DOp} {fa fb : DE} (hr : ∀ pn xe, OpR (X.tr pn xe) (compareOp op) r) (ho : DenOp T r o) (ha : PDe T X a fa) (hb : PDe T X b fb) (hm : behindInMarks op b = false) : PDt T X (.Compare a [op] [b] pos) (tst (dOp o fa fb)) := fun pn xe W tk => by
  obtain ⟨t1, p1, d1⟩ := ha pn xe W tk
  obtain ⟨t2, p2, d2⟩ := hb pn xe W tk
  exact ⟨_, pt_cmpR (hr pn xe) p1 p2 hm, den_tst (den_op ho d1 d2)⟩
theorem t_val {e : Expr} {f : DE} (h : PDe T X e f) (he : ∀ whole, isTrue e X.env whole = (do let v ← whole; standAt e.pos; holding [v] (truthy v)) := by intro _; rfl) : PDt T X e (tst f) := fun pn xe W tk => by
  obtain ⟨t1, p1, d1⟩ := h pn xe W tk
  exact ⟨_, pt_val (X := X.tr pn xe) p1 he, den_tst d1⟩
/-- a < b < c -/
def dChain (op op' : DOp) (fa fb fc : DE) : DE := fun δ s => (fa δ s).bind fun x s1 => (fb δ s1).bind fun y s2 => (op x y s2).bind fun z s3 => match z with
  | .bl true => (fc δ s3).bind fun w s4 => op' y w s4
  | .bl false => .ok (.bl false) s3
  | _ => .stuck
theorem den_op1 {W : WX} {r : R2} {op : DOp} (ho : DenOp T r op) {x y : V} {dx dy : D} {H P : Hp} {ι : List Addr} {F : Hp} {δ : Env} {s : Sto} {σ : L2.St} {Q : VK} {G : VK} {k : D → Sto → Res D} (R : RelH T P ι F s H) (E : REnv T F ι δ σ) (rx : Rp T F ι dx x) (ry : Rp T F ι dy y)
    (post : Post T P (Rp T) Q (fun c H' => W (.ref (T.ca c)) none σ H') F ι ((op dx dy s).bind k))
    (hk : ∀ x y H1 ι1 F1 s1, Grow F ι F1 ι1 → RelH T P ι1 F1 s1 H1 → REnv T F1 ι1 δ σ → Rp T F1 ι1 x y → Post T P (Rp T) Q (fun c H' => W (.ref (T.ca c)) none σ H') F1 ι1 (k x s1) → G y H1) : r x y H G :=
  den_then (T := T) (W := W) (t := fun σ' H' Q' => ∀ (P' : Hp) ι' F' s', RelH T P' ι' F' s' H' → Rp T F' ι' dx x → Rp T F' ι' dy y → Post T P' (Rp T) Q' (fun c H' => W (.ref (T.ca c)) none σ H') F' ι' (op dx dy s') → r x y H' Q') (f := fun _ s' => op dx dy s')
    (fun σ' H' P' ι' F' δ' s' Q' R' E' post' P'' ι'' F'' s'' R'' a b c => ho _ _ _ _ _ _ _ _ _ _ _ R'' a b c) R E post hk P ι F s R rx ry (by
      cases e : op dx dy s with
      | ok a b => rw [e] at post; exact fun v H' ι' F' g R' r => hk a v H' ι' F' b g R' (E.mono g) r (post.mono g)
      | exc c b => rw [e] at post; exact post
      | stuck => rw [e] at post; exact post)
theorem den_chain {W : WX} {r r' : R2} {o o' : DOp} {ta tb tc : TE} {fa fb fc : DE} (ho : DenOp T r o) (ho' : DenOp T r' o') (d1 : DenG T (Rp T) W ta fa) (d2 : DenG T (Rp T) W tb fb) (d3 : DenG T (Rp T) W tc fc) : DenG T (Rp T) W (tChain r r' ta tb tc) (dChain o o' fa fb fc) := fun σ H P ι F δ s Q R E post => by
  show ta σ H _
  refine den_then d1 R E post fun x y H1 ι1 F1 s1 g1 R1 E1 r1 post1 => ?_
  refine den_then d2 R1 E1 post1 fun x2 y2 H2 ι2 F2 s2 g2 R2 E2 r2 post2 => ?_
  refine den_op1 ho R2 E2 (r1.mono g2) r2 post2 fun z w H3 ι3 F3 s3 g3 R3 E3 r3 post3 => ?_
  cases z with
  | bl b =>
    unfold Rp at r3
    refine ⟨b, r3, ?_⟩
    cases b with
    | true =>
      rw [if_pos rfl]
      refine den_then d3 R3 E3 post3 fun x4 y4 H4 ι4 F4 s4 g4 R4 E4 r4 post4 => ?_
      exact ho' _ _ _ _ _ _ _ _ _ _ _ R4 ((r2.mono g3).mono g4) r4 post4
    | false =>
      rw [if_neg Bool.false_ne_true]
      exact post3.here R3 (by unfold Rp; rfl)
  | _ => exact post3.elim
theorem d_chain {a b c : Expr} {pos : Pos} {op op' : CmpOp} {r r' : R2} {o o' : DOp} {fa fb fc : DE} (hr : ∀ pn xe, OpR (X.tr pn xe) (compareOp op) r) (hr' : ∀ pn xe, OpR (X.tr pn xe) (compareOp op') r') (ho : DenOp T r o) (ho' : DenOp T r' o')
    (ha : PDe T X a fa) (hb : PDe T X b fb) (hc : PDe T X c fc) (hm : lastMarks [op, op'] [b, c] = false := by with_unfolding_all rfl) : PDe T X (.Compare a [op, op'] [b, c] pos) (dChain o o' fa fb fc) := fun pn xe W tk => by
  obtain ⟨t1, p1, d1⟩ := ha pn xe W tk
  obtain ⟨t2, p2, d2⟩ := hb pn xe W tk
  obtain ⟨t3, p3, d3⟩ := hc pn xe W tk
  exact ⟨_, pe_chain (hr pn xe) (hr' pn xe) p1 p2 p3 hm, den_chain ho ho' d1 d2 d3⟩
theorem t_chain {a b c : Expr} {pos : Pos} {op op' : CmpOp} {r r' : R2} {o o' : DOp} {fa fb fc : DE} (hr : ∀ pn xe, OpR (X.tr pn xe) (compareOp op) r) (hr' : ∀ pn xe, OpR (X.tr pn xe) (compareOp op') r') (ho : DenOp T r o) (ho' : DenOp T r' o')
    (ha : PDe T X a fa) (hb : PDe T X b fb) (hc : PDe T X c fc) (hm : lastMarks [op, op'] [b, c] = false := by with_unfolding_all rfl) : PDt T X (.Compare a [op, op'] [b, c] pos) (tst (dChain o o' fa fb fc)) := fun pn xe W tk => by
  obtain ⟨t1, p1, d1⟩ := ha pn xe W tk
  obtain ⟨t2, p2, d2⟩ := hb pn xe W tk
  obtain ⟨t3, p3, d3⟩ := hc pn xe W tk
  exact ⟨_, pt_chain (hr pn xe) (hr' pn xe) p1 p2 p3 hm, den_tst (den_chain ho ho' d1 d2 d3)⟩

/-! ## and, or, not, if-expressions -/
def tAndD (f g : DT) : DT := fun δ s => (f δ s).bind fun b s1 => match b with
  | true => g δ s1
  | false => .ok false s1
def tOrD (f g : DT) : DT := fun δ s => (f δ s).bind fun b s1 => match b with
  | true => .ok true s1
  | false => g δ s1
def tNotD (f : DT) : DT := fun δ s => (f δ s).bind fun b s1 => .ok (!b) s1
def PDw (T : Tb) (X : Cx) (e : Expr) (f : DT) : Prop := ∀ pn xe W, Takes (X.tr pn xe) W → ∃ t, PW (X.tr pn xe) e t ∧ DenG T eqR W t f
theorem PDw.t {e : Expr} {f : DT} (h : PDw T X e f) : PDt T X e f := fun pn xe W tk => by
  obtain ⟨t, p, d⟩ := h pn xe W tk
  exact ⟨t, p.pt, d⟩
section
variable {a b : Expr} {rest : List Expr} {pos : Pos} {fa fb : DT}
theorem w_and1 (ha : PDt T X a fa) : PDw T X (.BoolOp .And [a] pos) fa := fun pn xe W tk => by
  obtain ⟨t, p, d⟩ := ha pn xe W tk
  exact ⟨t, pw_and1 p, d⟩
theorem w_or1 (ha : PDt T X a fa) : PDw T X (.BoolOp .Or [a] pos) fa := fun pn xe W tk => by
  obtain ⟨t, p, d⟩ := ha pn xe W tk
  exact ⟨t, pw_or1 p, d⟩
theorem w_and (ha : PDt T X a fa) (hb : PDw T X (.BoolOp .And (b :: rest) pos) fb) : PDw T X (.BoolOp .And (a :: b :: rest) pos) (tAndD fa fb) := fun pn xe W tk => by
  obtain ⟨t1, p1, d1⟩ := ha pn xe W tk
  obtain ⟨t2, p2, d2⟩ := hb pn xe W tk
  refine ⟨_, pw_and p1 p2, fun σ H P ι F δ s Q R E post => ?_⟩
  show t1 σ H _
  refine den_then d1 R E post fun x y H1 ι1 F1 s1 g1 R1 E1 r1 post1 => ?_
  cases r1
  cases x with
  | true =>
    rw [if_pos rfl]
    exact d2 _ _ _ _ _ _ _ _ R1 E1 post1
  | false =>
    rw [if_neg Bool.false_ne_true]
    exact post1.here R1 rfl
theorem w_or (ha : PDt T X a fa) (hb : PDw T X (.BoolOp .Or (b :: rest) pos) fb) : PDw T X (.BoolOp .Or (a :: b :: rest) pos) (tOrD fa fb) := fun pn xe W tk => by
  obtain ⟨t1, p1, d1⟩ := ha pn xe W tk
  obtain ⟨t2, p2, d2⟩ := hb pn xe W tk
  refine ⟨_, pw_or p1 p2, fun σ H P ι F δ s Q R E post => ?_⟩
  show t1 σ H _
  refine den_then d1 R E post fun x y H1 ι1 F1 s1 g1 R1 E1 r1 post1 => ?_
  cases r1
  cases x with
  | true =>
    rw [if_pos rfl]
    exact post1.here R1 rfl
  | false =>
    rw [if_neg Bool.false_ne_true]
    exact d2 _ _ _ _ _ _ _ _ R1 E1 post1
theorem t_not (ha : PDt T X a fa) : PDt T X (.UnaryOp .Not a pos) (tNotD fa) := fun pn xe W tk => by
  obtain ⟨t1, p1, d1⟩ := ha pn xe W tk
  refine ⟨_, pt_not p1, fun σ H P ι F δ s Q R E post => ?_⟩
  show t1 σ H _
  refine den_then d1 R E post fun x y H1 ι1 F1 s1 g1 R1 E1 r1 post1 => ?_
  cases r1
  exact post1.here R1 rfl
end
def dAndV (f g : DE) : DE := fun δ s => (f δ s).bind fun x s1 => match x with
  | .bl true => g δ s1
  | .bl false => .ok (.bl false) s1
  | _ => .stuck
def dOrV (f g : DE) : DE := fun δ s => (f δ s).bind fun x s1 => match x with
  | .bl true => .ok (.bl true) s1
  | .bl false => g δ s1
  | _ => .stuck
def dNotV (f : DE) : DE := fun δ s => (f δ s).bind fun x s1 => match x with
  | .bl b => .ok (.bl (!b)) s1
  | _ => .stuck
def dIfE (c : DT) (f g : DE) : DE := fun δ s => (c δ s).bind fun b s1 => match b with
  | true => f δ s1
  | false => g δ s1
section
variable {a b c : Expr} {rest : List Expr} {pos : Pos} {fa fb : DE} {fc : DT}
theorem d_one {op} (ha : PDe T X a fa) : PDe T X (.BoolOp op [a] pos) fa := fun pn xe W tk => by
  obtain ⟨t1, p1, d1⟩ := ha pn xe W tk
  exact ⟨_, pe_one p1, d1⟩
theorem d_and (ha : PDe T X a fa) (hb : PDe T X (.BoolOp .And (b :: rest) pos) fb) : PDe T X (.BoolOp .And (a :: b :: rest) pos) (dAndV fa fb) := fun pn xe W tk => by
  obtain ⟨t1, p1, d1⟩ := ha pn xe W tk
  obtain ⟨t2, p2, d2⟩ := hb pn xe W tk
  refine ⟨_, pe_and p1 p2, fun σ H P ι F δ s Q R E post => ?_⟩
  show t1 σ H _
  refine den_then d1 R E post fun x y H1 ι1 F1 s1 g1 R1 E1 r1 post1 => ?_
  cases x with
  | bl b =>
    unfold Rp at r1
    refine ⟨b, r1, ?_⟩
    cases b with
    | true =>
      rw [if_pos rfl]
      exact d2 _ _ _ _ _ _ _ _ R1 E1 post1
    | false =>
      rw [if_neg Bool.false_ne_true]
      exact post1.here R1 (by unfold Rp; rfl)
  | _ => exact post1.elim
theorem d_or (ha : PDe T X a fa) (hb : PDe T X (.BoolOp .Or (b :: rest) pos) fb) : PDe T X (.BoolOp .Or (a :: b :: rest) pos) (dOrV fa fb) := fun pn xe W tk => by
  obtain ⟨t1, p1, d1⟩ := ha pn xe W tk
  obtain ⟨t2, p2, d2⟩ := hb pn xe W tk
  refine ⟨_, pe_or p1 p2, fun σ H P ι F δ s Q R E post => ?_⟩
  show t1 σ H _
  refine den_then d1 R E post fun x y H1 ι1 F1 s1 g1 R1 E1 r1 post1 => ?_
  cases x with
  | bl b =>
    unfold Rp at r1
    refine ⟨b, r1, ?_⟩
    cases b with
    | true =>
      rw [if_pos rfl]
      exact post1.here R1 (by unfold Rp; rfl)
    | false =>
      rw [if_neg Bool.false_ne_true]
      exact d2 _ _ _ _ _ _ _ _ R1 E1 post1
  | _ => exact post1.elim
theorem d_not (ha : PDe T X a fa) : PDe T X (.UnaryOp .Not a pos) (dNotV fa) := fun pn xe W tk => by
  obtain ⟨t1, p1, d1⟩ := ha pn xe W tk
  refine ⟨_, pe_not p1, fun σ H P ι F δ s Q R E post => ?_⟩
  show t1 σ H _
  refine den_then d1 R E post fun x y H1 ι1 F1 s1 g1 R1 E1 r1 post1 => ?_
  cases x with
  | bl b =>
    unfold Rp at r1
    exact ⟨b, r1, post1.here R1 (by unfold Rp; rfl)⟩
  | _ => exact post1.elim
theorem d_ifE (hc : PDt T X c fc) (ha : PDe T X a fa) (hb : PDe T X b fb) : PDe T X (.IfExp c a b pos) (dIfE fc fa fb) := fun pn xe W tk => by
  obtain ⟨t0, p0, d0⟩ := hc pn xe W tk
  obtain ⟨t1, p1, d1⟩ := ha pn xe W tk
  obtain ⟨t2, p2, d2⟩ := hb pn xe W tk
  refine ⟨_, pe_ifExp p0 p1 p2, fun σ H P ι F δ s Q R E post => ?_⟩
  show t0 σ H _
  refine den_then d0 R E post fun x y H1 ι1 F1 s1 g1 R1 E1 r1 post1 => ?_
  cases r1
  cases x with
  | true =>
    rw [if_pos rfl]
    exact d1 _ _ _ _ _ _ _ _ R1 E1 post1
  | false =>
    rw [if_neg Bool.false_ne_true]
    exact d2 _ _ _ _ _ _ _ _ R1 E1 post1
end
end
end Mp
/-! # MpC -/
namespace Mp
open PySem PySem.Spec L2

def lim : Nat := 1000000
theorem lim_le {n : Nat} (h : n ≤ lim) : n ≤ sizeLine := Nat.le_trans h (by rw [sizeLine_eq]; decide)
theorem lim_lt {n : Nat} (h : n ≤ lim) : n < sizeLine := Nat.lt_of_le_of_lt h (by rw [sizeLine_eq]; decide)
/-! ## what stands for lists and tuples -/
def lsOf (s : Sto) : D → Option (List D)
  | .lst xs => some xs
  | .loc n => match s[n]? with
    | some (.lst xs) => some xs
    | _ => none
  | _ => none
/-- a list that is only read -/
def lqOf (s : Sto) : D → Option (List D)
  | .scr ns => some (ns.map D.int)
  | d => lsOf s d
section
variable {T : Tb} {P : Hp} {ι : List Addr} {F : Hp} {s : Sto} {H : Hp}
theorem ls_of (R : RelH T P ι F s H) {d : D} {v : V} {xs : List D} (r : Rp T F ι d v) (e : lsOf s d = some xs) : ∃ a vs, v = .ref a ∧ H a = some (.lst vs) ∧ Rps T F ι xs vs := by
  unfold lsOf at e
  cases d with
  | lst ys =>
    cases e
    unfold Rp at r
    obtain ⟨a, vs, h1, h2, h3⟩ := r
    exact ⟨a, vs, h1, R.sub _ _ h2, h3⟩
  | loc n =>
    unfold Rp at r
    obtain ⟨a, h1, h2⟩ := r
    dsimp only at e
    cases q : s[n]? with
    | none => rw [q] at e; cases e
    | some c =>
      rw [q] at e
      cases c with
      | lst ys =>
        cases e
        obtain ⟨_, vs, h3, h4⟩ := R.cell n _ a q h1
        exact ⟨a, vs, h2, h3, h4⟩
      | _ => cases e
  | _ => cases e
theorem rps_ints : ∀ (ns : List Int), Rps T F ι (ns.map D.int) (ns.map V.int)
  | [] => .nil
  | n :: r => .cons (by unfold Rp; rfl) (rps_ints r)
theorem lq_of (R : RelH T P ι F s H) {d : D} {v : V} {xs : List D} (r : Rp T F ι d v) (e : lqOf s d = some xs) : ∃ a vs, v = .ref a ∧ SqL T.K H a vs ∧ Rps T F ι xs vs := by
  cases d with
  | scr ns =>
    unfold lqOf at e
    cases e
    unfold Rp at r
    obtain ⟨a, h1, h2⟩ := r
    exact ⟨a, _, h1, sql_mono R.sub h2, rps_ints ns⟩
  | _ =>
    obtain ⟨a, vs, h1, h2, h3⟩ := ls_of R r (show lsOf s _ = some xs from e)
    exact ⟨a, vs, h1, SqL.of h2, h3⟩
theorem tp_of (R : RelH T P ι F s H) {xs : List D} {v : V} (r : Rp T F ι (.tup xs) v) : ∃ a vs, v = .ref a ∧ H a = some (.tup vs) ∧ F a = some (.tup vs) ∧ Rps T F ι xs vs := by
  unfold Rp at r
  obtain ⟨a, vs, h1, h2, h3⟩ := r
  exact ⟨a, vs, h1, R.sub _ _ h2, h2, h3⟩
end

/-! ## arithmetic, sums of texts, lists, tuples -/
def oAdd : DOp
  | .int a, .int b, s => .ok (.int (a + b)) s
  | .str a, .str b, s => if a.length + b.length ≤ lim then .ok (.str (a ++ b)) s else .stuck
  | .tup a, .tup b, s => if a ≠ [] ∧ a.length + b.length ≤ lim then .ok (.tup (a ++ b)) s else .stuck
  | x, y, s => match lsOf s x, lsOf s y with
    | some a, some b => if a.length + b.length ≤ lim then .ok (.lst (a ++ b)) s else .stuck
    | _, _ => .stuck
def orR (r r' : R2) : R2 := fun x y H Q => r x y H Q ∨ r' x y H Q
theorem OpR.or {X : Cx} {f : Value → Value → Sem Value} {r r' : R2} (h : OpR X f r) (h' : OpR X f r') : OpR X f (orR r r') := by
  intro pins s σ H x y v u Q I rx ry q
  rcases q with q | q
  · exact h pins s σ H x y v u Q I rx ry q
  · exact h' pins s σ H x y v u Q I rx ry q
def rAddS : R2 := fun x y H Q => ∃ i j, x = .str i ∧ y = .str j ∧ i.length + j.length ≤ sizeLine ∧ Q (.str (i ++ j)) H
def rAddA (K : PySem.W.Frag) : R2 := orR (rI0 fun i j => .int (i + j)) (orR rAddS (orR rCat (rCatT K)))
theorem op_addA {X : Cx} : OpR X (binaryOp .Add) (rAddA X.K) := OpR.or op_add (OpR.or op_add_str (OpR.or op_cat op_catT))
section
variable {T : Tb}
theorem do_add : DenOp T (rAddA T.K) oAdd := by
  intro x y dx dy H P ι F s Q E R rx ry post
  have gen : ∀ a b, lsOf s dx = some a → lsOf s dy = some b → Post T P (Rp T) Q E F ι (if a.length + b.length ≤ lim then .ok (.lst (a ++ b)) s else .stuck) → rAddA T.K x y H Q := by
    intro a b h1 h2 post
    obtain ⟨p, vs, rfl, e1, e2⟩ := ls_of R rx h1
    obtain ⟨q, us, rfl, e3, e4⟩ := ls_of R ry h2
    split at post
    · rename_i hl
      refine .inr (.inr (.inl ⟨p, q, vs, us, rfl, rfl, e1, e3, by rw [← e2.len, ← e4.len]; exact lim_le hl, fun l hl => ?_⟩))
      refine post.new R hl fun g => ?_
      unfold Rp
      exact ⟨l, _, rfl, upd_same, (e2.app e4).mono g⟩
    · exact post.elim
  unfold oAdd at post
  split at post
  · unfold Rp at rx ry
    exact .inl ⟨_, _, rx, ry, post.here R (by unfold Rp; rfl)⟩
  · unfold Rp at rx ry
    rename_i a b _
    split at post
    · rename_i hl
      refine .inr (.inl ⟨_, _, rx, ry, by rw [S_len, S_len]; exact lim_le hl, ?_⟩)
      rw [S_cat]
      exact post.here R (by unfold Rp; rfl)
    · exact post.elim
  · rename_i a b _
    split at post
    · rename_i hl
      obtain ⟨p, vs, rfl, e1, _, e2⟩ := tp_of R rx
      obtain ⟨q, us, rfl, e3, _, e4⟩ := tp_of R ry
      refine .inr (.inr (.inr ⟨p, q, vs, us, rfl, rfl, SqT.of e1, SqT.of e3, ?_, by rw [← e2.len, ← e4.len]; exact lim_le hl.2, fun z => ?_, fun _ l hl => ?_⟩))
      · intro z
        have := e2.len
        rw [z] at this
        exact hl.1 (List.length_eq_zero_iff.mp this)
      · have := e4.len
        rw [z] at this
        rw [List.length_eq_zero_iff.mp this] at post
        refine post.here R ?_
        rw [List.append_nil]
        exact rx
      · refine post.new R hl fun g => ?_
        unfold Rp
        exact ⟨l, _, rfl, upd_same, (e2.app e4).mono g⟩
    · exact post.elim
  · split at post
    · rename_i a b h1 h2
      exact gen a b h1 h2 post
    · exact post.elim
/-- whole numbers in, under a condition -/
def oInt (c : Int → Int → Bool) (g : Int → Int → Int) : DOp
  | .int a, .int b, s => if c a b = true then .ok (.int (g a b)) s else .stuck
  | _, _, _ => .stuck
theorem do_int {c : Int → Int → Bool} {C : Int → Int → Prop} {g : Int → Int → Int} (h : ∀ a b, c a b = true → C a b) : DenOp T (rI C fun i j => .int (g i j)) (oInt c g) := by
  intro x y dx dy H P ι F s Q E R rx ry post
  unfold oInt at post
  split at post
  · split at post
    · rename_i hc
      unfold Rp at rx ry
      exact ⟨_, _, rx, ry, h _ _ hc, post.here R (by unfold Rp; rfl)⟩
    · exact post.elim
  · exact post.elim
theorem do_int0 {g : Int → Int → Int} : DenOp T (rI0 fun i j => .int (g i j)) (oInt (fun _ _ => true) g) := by
  intro x y dx dy H P ι F s Q E R rx ry post
  unfold oInt at post
  split at post
  · rw [if_pos rfl] at post
    unfold Rp at rx ry
    exact ⟨_, _, rx, ry, post.here R (by unfold Rp; rfl)⟩
  · exact post.elim
abbrev oSub : DOp := oInt (fun _ _ => true) (· - ·)
def cMul (i j : Int) : Bool := (decide (-(2 ^ 64) < i) && decide (i < 2 ^ 64)) || (decide (-(2 ^ 64) < j) && decide (j < 2 ^ 64))
abbrev oMul : DOp := oInt cMul (· * ·)
abbrev oDiv : DOp := oInt (fun _ j => decide (0 < j) && decide (j < 1073741824)) (· / ·)
abbrev oMod : DOp := oInt (fun _ j => decide (0 < j)) (· % ·)
def cPow (i j : Int) : Bool := decide (0 ≤ j) && (decide (j ≤ 1000000) && decide (i.natAbs < 2 ^ 64))
abbrev oPow : DOp := oInt cPow (fun i j => i ^ j.toNat)
abbrev oShl : DOp := oInt cPow (fun i j => i * 2 ^ j.toNat)
abbrev oShr : DOp := oInt (fun _ j => decide (0 ≤ j)) (fun i j => i / 2 ^ j.toNat)
abbrev oAnd : DOp := oInt (fun _ _ => true) Builtin.bitAnd
abbrev oOr : DOp := oInt (fun _ _ => true) Builtin.bitOr
theorem do_sub : DenOp T (rI0 fun i j => .int (i - j)) oSub := do_int0
theorem do_mul : DenOp T (rI CMul fun i j => .int (i * j)) oMul := do_int fun a b h => by
  unfold cMul at h
  unfold CMul
  simp only [Bool.or_eq_true, Bool.and_eq_true, decide_eq_true_eq] at h
  exact h
theorem do_div : DenOp T (rI CDiv fun i j => .int (i / j)) oDiv := do_int fun a b h => by
  simp only [Bool.and_eq_true, decide_eq_true_eq] at h
  exact h
theorem do_mod : DenOp T (rI (fun _ j => 0 < j) fun i j => .int (i % j)) oMod := do_int fun a b h => of_decide_eq_true h
theorem cPow_ok {a b : Int} (h : cPow a b = true) : CPow a b := by
  unfold cPow at h
  simp only [Bool.and_eq_true, decide_eq_true_eq] at h
  exact h
theorem do_pow : DenOp T (rI CPow fun i j => .int (i ^ j.toNat)) oPow := do_int fun a b h => cPow_ok h
theorem do_shl : DenOp T (rI CPow fun i j => .int (i * 2 ^ j.toNat)) oShl := do_int fun a b h => cPow_ok h
theorem do_shr : DenOp T (rI (fun _ j => 0 ≤ j) fun i j => .int (i / 2 ^ j.toNat)) oShr := do_int fun a b h => of_decide_eq_true h
theorem do_and : DenOp T (rI0 fun i j => .int (Builtin.bitAnd i j)) oAnd := do_int0
theorem do_or : DenOp T (rI0 fun i j => .int (Builtin.bitOr i j)) oOr := do_int0
/-! ## comparisons -/
def oCmp (g : Int → Int → Bool) : DOp
  | .int a, .int b, s => .ok (.bl (g a b)) s
  | _, _, _ => .stuck
theorem do_cmp {g : Int → Int → Bool} : DenOp T (rI0 fun i j => .bl (g i j)) (oCmp g) := by
  intro x y dx dy H P ι F s Q E R rx ry post
  unfold oCmp at post
  split at post
  · unfold Rp at rx ry
    exact ⟨_, _, rx, ry, post.here R (by unfold Rp; rfl)⟩
  · exact post.elim
abbrev oLt : DOp := oCmp fun i j => decide (i < j)
abbrev oLe : DOp := oCmp fun i j => decide (i ≤ j)
abbrev oGt : DOp := oCmp fun i j => decide (j < i)
abbrev oGe : DOp := oCmp fun i j => decide (j ≤ i)
mutual
def toP : D → Option PyData
  | .non => some .none
  | .bl b => some (.bool b)
  | .int i => some (.int i)
  | .str x => some (.str (S x))
  | .lst xs => (toPs xs).map .list
  | .tup xs => (toPs xs).map .tuple
  | .scr ns => some (.list (ns.map .int))
  | _ => none
def toPs : List D → Option (List PyData)
  | [] => some []
  | x :: xs => match toP x, toPs xs with
    | some p, some ps => some (p :: ps)
    | _, _ => none
end
theorem dp_ints {K : PySem.W.Frag} {H : Hp} : ∀ (ns : List Int), DpAll K H (ns.map V.int) (ns.map PyData.int)
  | [] => .nil
  | n :: r => .cons (.int n) (dp_ints r)
mutual
theorem dp_of {P : Hp} {ι : List Addr} {F : Hp} {s : Sto} {H : Hp} (R : RelH T P ι F s H) : ∀ {d : D} {v : V} {p : PyData}, Rp T F ι d v → toP d = some p → Dp T.K H v p
  | .non, v, p, r, e => by unfold Rp at r; subst r; cases e; exact .non
  | .bl _, v, p, r, e => by unfold Rp at r; subst r; cases e; exact .bl _
  | .int _, v, p, r, e => by unfold Rp at r; subst r; cases e; exact .int _
  | .str _, v, p, r, e => by unfold Rp at r; subst r; cases e; exact .str _
  | .scr ns, v, p, r, e => by
    unfold Rp at r
    obtain ⟨a, rfl, q⟩ := r
    cases e
    exact .lst (sql_mono R.sub q) (dp_ints ns)
  | .lst xs, v, p, r, e => by
    unfold Rp at r
    obtain ⟨a, vs, rfl, q, r⟩ := r
    unfold toP at e
    cases h : toPs xs with
    | none => rw [h] at e; cases e
    | some ps => rw [h] at e; cases e; exact .lst (SqL.of (R.sub _ _ q)) (dps_of R r h)
  | .tup xs, v, p, r, e => by
    unfold Rp at r
    obtain ⟨a, vs, rfl, q, r⟩ := r
    unfold toP at e
    cases h : toPs xs with
    | none => rw [h] at e; cases e
    | some ps => rw [h] at e; cases e; exact .tup (SqT.of (R.sub _ _ q)) (dps_of R r h)
  | .dct _ _, v, p, r, e => by cases e
  | .obj _ _ _, v, p, r, e => by cases e
  | .loc _, v, p, r, e => by cases e
  | .exc _, v, p, r, e => by cases e
  | .cls _, v, p, r, e => by cases e
  | .ty _, v, p, r, e => by cases e
theorem dps_of {P : Hp} {ι : List Addr} {F : Hp} {s : Sto} {H : Hp} (R : RelH T P ι F s H) : ∀ {ds : List D} {vs : List V} {ps : List PyData}, Rps T F ι ds vs → toPs ds = some ps → DpAll T.K H vs ps
  | [], vs, ps, r, e => by unfold Rps at r; subst r; cases e; exact .nil
  | x :: xs, vs, ps, r, e => by
    unfold Rps at r
    obtain ⟨v, us, rfl, r1, r2⟩ := r
    unfold toPs at e
    cases h1 : toP x with
    | none => rw [h1] at e; cases e
    | some p =>
      cases h2 : toPs xs with
      | none => rw [h1, h2] at e; cases e
      | some qs => rw [h1, h2] at e; cases e; exact .cons (dp_of R r1 h1) (dps_of R r2 h2)
end
def toPc (s : Sto) (d : D) : Option PyData := match lsOf s d with
  | some xs => (toPs xs).map .list
  | none => toP d
theorem dpc_of {P : Hp} {ι : List Addr} {F : Hp} {s : Sto} {H : Hp} (R : RelH T P ι F s H) {d : D} {v : V} {p : PyData} (r : Rp T F ι d v) (e : toPc s d = some p) : Dp T.K H v p := by
  unfold toPc at e
  cases h : lsOf s d with
  | none => rw [h] at e; exact dp_of R r e
  | some xs =>
    rw [h] at e
    dsimp only at e
    obtain ⟨a, vs, rfl, q, r⟩ := ls_of R r h
    cases h2 : toPs xs with
    | none => rw [h2] at e; cases e
    | some ps => rw [h2] at e; cases e; exact .lst (SqL.of q) (dps_of R r h2)
/-- ==, and its contrary -/
def scD : D → D → Option Bool
  | .int a, .int b => some (a == b)
  | .str a, .str b => some (a == b)
  | .bl a, .bl b => some (a == b)
  | .non, .non => some true
  | .non, .int _ | .non, .str _ | .non, .bl _ | .int _, .non | .str _, .non | .bl _, .non => some false
  | .int _, .str _ | .str _, .int _ | .bl _, .str _ | .str _, .bl _ => some false
  | _, _ => none
def oEqG (neg : Bool) : DOp := fun x y s => match scD x y with
  | some b => .ok (.bl (neg != b)) s
  | none => match toPc s x, toPc s y with
    | some p, some q => if (SeqAt.shaped p && SeqAt.shaped q) = true then .ok (.bl (neg != PyData.eqv p q)) s else .stuck
    | _, _ => .stuck
abbrev oEq : DOp := oEqG false
abbrev oNe : DOp := oEqG true
def rEqA (K : PySem.W.Frag) : R2 := orR rEq (rEqD K)
def rNeA (K : PySem.W.Frag) : R2 := orR rNe (rNeD K)
theorem op_eqA {X : Cx} (hu : X.A.units + 64 < cLine) : OpR X (compareOp .Eq) (rEqA X.K) := OpR.or op_eq (op_eqD hu)
theorem op_neA {X : Cx} (hu : X.A.units + 64 < cLine) : OpR X (compareOp .NotEq) (rNeA X.K) := OpR.or op_ne (op_neD hu)
theorem b1 (b : Bool) : (false != b) = b := by cases b <;> rfl
theorem b2 (b : Bool) : (true != b) = !b := by cases b <;> rfl
theorem beq_dec {α : Type} [BEq α] [LawfulBEq α] [DecidableEq α] (a b : α) : (a == b) = decide (a = b) := by
  by_cases h : a = b
  · rw [decide_eq_true h]; exact beq_iff_eq.mpr h
  · rw [decide_eq_false h]; exact beq_eq_false_iff_ne.mpr h
theorem dec_i {a b : Int} : decide (V.int a = V.int b) = (a == b) := by
  rw [beq_dec]; exact decide_eq_decide.mpr ⟨fun h => by injection h, fun h => by rw [h]⟩
theorem dec_s {a b : List Nat} : decide (V.str (S a) = V.str (S b)) = (a == b) := by
  rw [beq_dec]; exact decide_eq_decide.mpr ⟨fun h => by injection h with h; exact S_inj h, fun h => by rw [h]⟩
theorem dec_b {a b : Bool} : decide (V.bl a = V.bl b) = (a == b) := by cases a <;> cases b <;> rfl
theorem scD_ok {F : Hp} {ι : List Addr} {d e : D} {v u : V} {b : Bool} (r : Rp T F ι d v) (q : Rp T F ι e u) (h : scD d e = some b) : scal v u = true ∧ decide (v = u) = b := by
  unfold scD at h
  split at h
  all_goals first | cases h | skip
  all_goals
    unfold Rp at r q
    subst r q
    first | exact ⟨rfl, dec_i⟩ | exact ⟨rfl, dec_s⟩ | exact ⟨rfl, dec_b⟩ | exact ⟨rfl, rfl⟩
theorem do_eq : DenOp T (rEqA T.K) oEq := by
  intro x y dx dy H P ι F s Q E R rx ry post
  unfold oEq oEqG at post
  split at post
  · rename_i b hb
    obtain ⟨h1, h2⟩ := scD_ok rx ry hb
    exact .inl ⟨h1, post.here R (by unfold Rp; rw [b1, h2])⟩
  · split at post
    · rename_i p q h1 h2
      split at post
      · rename_i hs
        simp only [Bool.and_eq_true] at hs
        exact .inr ⟨p, q, dpc_of R rx h1, dpc_of R ry h2, hs.1, hs.2, post.here R (by unfold Rp; rw [b1])⟩
      · exact post.elim
    · exact post.elim
theorem do_ne : DenOp T (rNeA T.K) oNe := by
  intro x y dx dy H P ι F s Q E R rx ry post
  unfold oNe oEqG at post
  split at post
  · rename_i b hb
    obtain ⟨h1, h2⟩ := scD_ok rx ry hb
    exact .inl ⟨h1, post.here R (by unfold Rp; rw [b2, h2])⟩
  · split at post
    · rename_i p q h1 h2
      split at post
      · rename_i hs
        simp only [Bool.and_eq_true] at hs
        exact .inr ⟨p, q, dpc_of R rx h1, dpc_of R ry h2, hs.1, hs.2, post.here R (by unfold Rp; rw [b2])⟩
      · exact post.elim
    · exact post.elim
/-- is None, is not None -/
def isNon : D → Bool
  | .non => true
  | _ => false
theorem isNon_ok {F : Hp} {ι : List Addr} {d : D} {v : V} (r : Rp T F ι d v) : decide (v = .non) = isNon d := by
  cases d with
  | non => unfold Rp at r; subst r; rfl
  | tup _ => unfold Rp at r; obtain ⟨_, _, rfl, _⟩ := r; rfl
  | lst _ => unfold Rp at r; obtain ⟨_, _, rfl, _⟩ := r; rfl
  | scr _ => unfold Rp at r; obtain ⟨_, rfl, _⟩ := r; rfl
  | dct _ _ => unfold Rp at r; obtain ⟨_, _, rfl, _⟩ := r; rfl
  | obj _ _ _ => unfold Rp at r; obtain ⟨_, _, _, rfl, _⟩ := r; rfl
  | loc _ => unfold Rp at r; obtain ⟨_, _, rfl⟩ := r; rfl
  | exc _ => unfold Rp at r; obtain ⟨_, rfl, _⟩ := r; rfl
  | _ => unfold Rp at r; subst r; rfl
def oIs (neg : Bool) : DOp
  | x, .non, s => .ok (.bl (neg != isNon x)) s
  | _, _, _ => .stuck
def rIsN : R2 := fun x y H Q => y = .non ∧ Q (.bl (decide (x = .non))) H
def rNotN : R2 := fun x y H Q => y = .non ∧ Q (.bl (!decide (x = .non))) H
theorem do_is : DenOp T rIsN (oIs false) := by
  intro x y dx dy H P ι F s Q E R rx ry post
  unfold oIs at post
  split at post
  · refine ⟨by unfold Rp at ry; exact ry, post.here R ?_⟩
    unfold Rp; rw [b1, isNon_ok rx]
  · exact post.elim
theorem do_isnot : DenOp T rNotN (oIs true) := by
  intro x y dx dy H P ι F s Q E R rx ry post
  unfold oIs at post
  split at post
  · refine ⟨by unfold Rp at ry; exact ry, post.here R ?_⟩
    unfold Rp; rw [b2, isNon_ok rx]
  · exact post.elim
/-! ## in a list or tuple of flat things; in a text -/
def flatD : D → Bool
  | .non | .bl _ | .int _ | .str _ => true
  | _ => false
def eqF : D → D → Bool
  | .non, .non => true
  | .bl a, .bl b => a == b
  | .bl a, .int b => (if a then 1 else 0) == b
  | .int a, .bl b => a == (if b then 1 else 0)
  | .int a, .int b => a == b
  | .str a, .str b => a == b
  | _, _ => false
def tpOf : D → Option (List D)
  | .tup xs => some xs
  | _ => none
/-- x in xs -/
def oIn (neg : Bool) : DOp := fun x y s => match (lqOf s y).or (tpOf y) with
  | some xs => if (flatD x && xs.all flatD) = true then .ok (.bl (neg != xs.any fun y => eqF y x)) s else .stuck
  | none => .stuck
theorem flat_ok {F : Hp} {ι : List Addr} {d : D} {v : V} (r : Rp T F ι d v) (h : flatD d = true) : flatV v = true := by
  cases d <;> first | (unfold Rp at r; subst r; rfl) | cases h
theorem eqF_ok {F : Hp} {ι : List Addr} {d e : D} {v u : V} (r : Rp T F ι d v) (q : Rp T F ι e u) (h : flatD d = true) (k : flatD e = true) : eqV v u = eqF d e := by
  cases d <;> first | cases h | skip
  all_goals
    cases e <;> first | cases k | skip
    all_goals
      unfold Rp at r q
      subst r q
      first
        | rfl
        | (rename_i p q
           show (S p == S q) = (p == q)
           rw [beq_dec, beq_dec]
           exact decide_eq_decide.mpr ⟨fun h => S_inj h, fun h => by rw [h]⟩)
theorem in_ok {F : Hp} {ι : List Addr} {x : D} {v : V} (r : Rp T F ι x v) (h : flatD x = true) : ∀ {ds : List D} {vs : List V}, Rps T F ι ds vs → ds.all flatD = true → vs.all flatV = true ∧ (vs.any fun y => eqV y v) = ds.any fun y => eqF y x
  | [], vs, q, _ => by unfold Rps at q; subst q; exact ⟨rfl, rfl⟩
  | d :: ds, vs, q, k => by
    unfold Rps at q
    obtain ⟨u, us, rfl, q1, q2⟩ := q
    rw [List.all_cons, Bool.and_eq_true] at k
    obtain ⟨i1, i2⟩ := in_ok r h q2 k.2
    refine ⟨by rw [List.all_cons, flat_ok q1 k.1, i1]; rfl, ?_⟩
    rw [List.any_cons, List.any_cons, eqF_ok q1 r k.1 h, i2]
theorem lqtp_of {P : Hp} {ι : List Addr} {F : Hp} {s : Sto} {H : Hp} (R : RelH T P ι F s H) {d : D} {v : V} {xs : List D} (r : Rp T F ι d v) (e : (lqOf s d).or (tpOf d) = some xs) : ∃ a vs, v = .ref a ∧ (SqL T.K H a vs ∨ SqT T.K H a vs) ∧ Rps T F ι xs vs := by
  cases h : lqOf s d with
  | some ys =>
    rw [h] at e
    cases e
    obtain ⟨a, vs, h1, h2, h3⟩ := lq_of R r h
    exact ⟨a, vs, h1, .inl h2, h3⟩
  | none =>
    rw [h] at e
    cases d with
    | tup ys =>
      cases e
      obtain ⟨a, vs, h1, h2, _, h3⟩ := tp_of R r
      exact ⟨a, vs, h1, .inr (SqT.of h2), h3⟩
    | _ => cases e
theorem do_in {neg : Bool} : DenOp T (rIn T.K neg) (oIn neg) := by
  intro x y dx dy H P ι F s Q E R rx ry post
  unfold oIn at post
  split at post
  · rename_i xs h
    obtain ⟨a, vs, rfl, h2, h3⟩ := lqtp_of R ry h
    split at post
    · rename_i hf
      simp only [Bool.and_eq_true] at hf
      obtain ⟨i1, i2⟩ := in_ok rx hf.1 h3 hf.2
      refine ⟨a, vs, rfl, h2, flat_ok rx hf.1, i1, post.here R ?_⟩
      unfold Rp inV
      rw [i2]
      cases neg <;> simp
    · exact post.elim
  · exact post.elim
/-- one sign in a text -/
def oInS (neg : Bool) : DOp
  | .str [c], .str z, s => .ok (.bl (neg != decide (c ∈ z))) s
  | _, _, _ => .stuck
def rInS : R2 := fun x y H Q => ∃ (c : Nat) (z : Str), x = .str ⟨#[c]⟩ ∧ y = .str z ∧ Q (.bl (decide (c ∈ z.cps.toList))) H
def rNotInS : R2 := fun x y H Q => ∃ (c : Nat) (z : Str), x = .str ⟨#[c]⟩ ∧ y = .str z ∧ Q (.bl (!decide (c ∈ z.cps.toList))) H
theorem do_inS : DenOp T rInS (oInS false) := by
  intro x y dx dy H P ι F s Q E R rx ry post
  unfold oInS at post
  split at post
  · unfold Rp at rx ry
    exact ⟨_, _, rx, ry, post.here R (by unfold Rp; rw [b1]; exact congrArg V.bl (decide_eq_decide.mpr (by simp [S])))⟩
  · exact post.elim
theorem do_notInS : DenOp T rNotInS (oInS true) := by
  intro x y dx dy H P ι F s Q E R rx ry post
  unfold oInS at post
  split at post
  · unfold Rp at rx ry
    exact ⟨_, _, rx, ry, post.here R (by unfold Rp; rw [b2]; exact congrArg V.bl (congrArg Bool.not (decide_eq_decide.mpr (by simp [S]))))⟩
  · exact post.elim
/-! ## subscripts -/
theorem at_ok {F : Hp} {ι : List Addr} {ds : List D} {vs : List V} {i : Int} {d : D} (r : Rps T F ι ds vs) (h : atI ds i = some d) : ∃ v, atI vs i = some v ∧ Rp T F ι d v := by
  unfold atI at h ⊢
  rw [← r.len]
  cases e : ixN ds.length i with
  | none => rw [e] at h; cases h
  | some j =>
    rw [e] at h
    exact r.get h
def oIx : DOp
  | .str z, .int i, s => if z.length ≤ lim then match atI z i with
    | some c => .ok (.str [c]) s
    | none => .stuck
    else .stuck
  | x, .int i, s => match (lqOf s x).or (tpOf x) with
    | some xs => match atI xs i with
      | some d => .ok d s
      | none => .stuck
    | none => .stuck
  | _, _, _ => .stuck
theorem do_ix : DenOp T (rIx T.K) oIx := by
  intro x y dx dy H P ι F s Q E R rx ry post
  unfold oIx at post
  split at post
  · split at post
    · rename_i hl
      split at post
      · rename_i c hc
        unfold Rp at rx ry
        refine .inr (.inr ⟨S _, _, c, rx, ry, by rw [S_len]; exact lim_le hl, ?_, post.here R (by unfold Rp; rfl)⟩)
        simpa [S] using hc
      · exact post.elim
    · exact post.elim
  · split at post
    · rename_i xs h
      split at post
      · rename_i d hd
        unfold Rp at ry
        obtain ⟨a, vs, rfl, h2, h3⟩ := lqtp_of R rx h
        obtain ⟨v, h4, h5⟩ := at_ok h3 hd
        rcases h2 with h2 | h2
        · exact .inl ⟨a, vs, _, v, rfl, ry, h2, h4, post.here R h5⟩
        · exact .inr (.inl ⟨a, vs, _, v, rfl, ry, h2, h4, post.here R h5⟩)
      · exact post.elim
    · exact post.elim
  · exact post.elim
theorem d_ix {X : Cx} {a b : Expr} {pos : Pos} {fa fb : DE} (ha : PDe T X a fa) (hb : PDe T X b fb) (hs : PlainIx b := by exact fun _ _ => rfl) (hK : X.K = T.K := by rfl) : PDe T X (.Subscript a b pos) (dOp oIx fa fb) := fun pn xe W tk => by
  obtain ⟨t1, p1, d1⟩ := ha pn xe W tk
  obtain ⟨t2, p2, d2⟩ := hb pn xe W tk
  exact ⟨_, pe_ix (X := X.tr pn xe) ix_seq p1 p2 hs, den_op (by show DenOp T (rIx X.K) oIx; rw [hK]; exact do_ix) d1 d2⟩
/-! ## slices -/
def cutL {α : Type} (xs : List α) (lo hi : Option Int) : List α := (xs.drop (HT.sIx xs.length 0 lo)).take (HT.sIx xs.length xs.length hi - HT.sIx xs.length 0 lo)
theorem cut_ok {F : Hp} {ι : List Addr} {ds : List D} {vs : List V} (r : Rps T F ι ds vs) (lo hi : Option Int) : Rps T F ι (cutL ds lo hi) (cutV vs lo hi) := by
  unfold cutL cutV
  rw [← r.len]
  exact (r.drop _).take _
abbrev DOI := Env → Sto → Res (Option Int)
def pNone : DOI := fun _ s => .ok none s
def pSome (f : DE) : DOI := fun δ s => (f δ s).bind fun x s1 => match x with
  | .int i => .ok (some i) s1
  | _ => .stuck
def PDo (T : Tb) (X : Cx) (e : Option Expr) (f : DOI) : Prop := ∀ pn xe W, Takes (X.tr pn xe) W → ∃ t, PO (X.tr pn xe) e t ∧ DenG T eqR W t f
theorem o_none {X : Cx} : PDo T X none pNone := fun pn xe W _ => ⟨_, po_none, fun _ _ _ _ _ _ _ _ R _ post => post.here R rfl⟩
theorem o_some {X : Cx} {e : Expr} {f : DE} (h : PDe T X e f) : PDo T X (some e) (pSome f) := fun pn xe W tk => by
  obtain ⟨t1, p1, d1⟩ := h pn xe W tk
  refine ⟨_, po_some p1, fun σ H P ι F δ s Q R E post => ?_⟩
  show t1 σ H _
  refine den_then d1 R E post fun x y H1 ι1 F1 s1 g1 R1 E1 r1 post1 => ?_
  cases x with
  | int i =>
    unfold Rp at r1
    exact ⟨i, r1, post1.here R1 rfl⟩
  | _ => exact post1.elim
def oSl (x : D) (lo hi : Option Int) (s : Sto) : Res D := match x with
  | .str z => if z.length ≤ lim then .ok (.str (cutL z lo hi)) s else .stuck
  | .tup xs => if HT.sIx xs.length 0 lo = 0 ∧ HT.sIx xs.length xs.length hi = xs.length then .stuck else .ok (.tup (cutL xs lo hi)) s
  | x => match lqOf s x with
    | some xs => .ok (.lst (cutL xs lo hi)) s
    | none => .stuck
def dSl (f : DE) (lo hi : DOI) : DE := fun δ s => (f δ s).bind fun x s1 => (lo δ s1).bind fun l s2 => (hi δ s2).bind fun u s3 => oSl x l u s3
theorem d_sl {X : Cx} {e : Expr} {lo hi : Option Expr} {p2 pos : Pos} {f : DE} {g h : DOI} (he : PDe T X e f) (hl : PDo T X lo g) (hh : PDo T X hi h) (hK : X.K = T.K := by rfl) : PDe T X (.Subscript e (.Slice lo hi none p2) pos) (dSl f g h) := fun pn xe W tk => by
  obtain ⟨t1, p1, d1⟩ := he pn xe W tk
  obtain ⟨t2, p2, d2⟩ := hl pn xe W tk
  obtain ⟨t3, p3, d3⟩ := hh pn xe W tk
  refine ⟨_, pe_slice (X := X.tr pn xe) (sl_list.or (sl_tup.or sl_str)) p1 p2 p3, fun σ H P ι F δ s Q R E post => ?_⟩
  show t1 σ H _
  refine den_then d1 R E post fun x y H1 ι1 F1 s1 g1 R1 E1 r1 post1 => ?_
  refine den_then d2 R1 E1 post1 fun l l' H2 ι2 F2 s2 g2 R2 E2 r2 post2 => ?_
  refine den_then d3 R2 E2 post2 fun u u' H3 ι3 F3 s3 g3 R3 E3 r3 post3 => ?_
  cases r2
  cases r3
  have rx := (r1.mono g2).mono g3
  have hK' : (X.tr pn xe).K = T.K := hK
  rw [hK']
  unfold oSl at post3
  split at post3
  · rename_i z
    split at post3
    · rename_i hz
      unfold Rp at rx
      refine .inr (.inr ⟨S z, rx, by rw [S_len]; exact lim_le hz, post3.here R3 ?_⟩)
      unfold Rp cutS cutL
      simp [S, Str.length]
    · exact post3.elim
  · rename_i xs
    split at post3
    · exact post3.elim
    · rename_i hw
      obtain ⟨a, vs, rfl, h2, _, h3⟩ := tp_of R3 rx
      refine .inr (.inl ⟨a, vs, rfl, SqT.of h2, by rw [← h3.len]; exact hw, fun p hp => ?_⟩)
      refine post3.new R3 hp fun g => ?_
      unfold Rp
      exact ⟨p, _, rfl, upd_same, (cut_ok h3 l u).mono g⟩
  · split at post3
    · rename_i xs h
      obtain ⟨a, vs, rfl, h2, h3⟩ := lq_of R3 rx h
      refine .inl ⟨a, vs, rfl, h2, fun p hp => ?_⟩
      refine post3.new R3 hp fun g => ?_
      unfold Rp
      exact ⟨p, _, rfl, upd_same, (cut_ok h3 l u).mono g⟩
    · exact post3.elim
/-! ## displays -/
def dTup (f : DA) : DE := fun δ s => (f δ s).bind fun xs s1 => if xs.length ≤ lim then .ok (.tup xs) s1 else .stuck
def dLst (f : DA) : DE := fun δ s => (f δ s).bind fun xs s1 => if xs.length ≤ lim then .ok (.lst xs) s1 else .stuck
theorem d_tup {X : Cx} {es : List Expr} {x1 : Nat} {pos : Pos} {f : DA} (h : PDa T X es f) : PDe T X (.Tuple es x1 pos) (dTup f) := fun pn xe W tk => by
  obtain ⟨t1, p1, d1⟩ := h pn xe W tk
  refine ⟨_, pe_tup p1, fun σ H P ι F δ s Q R E post => ?_⟩
  show t1 σ H _
  refine den_then d1 R E post fun x y H1 ι1 F1 s1 g1 R1 E1 r1 post1 => ?_
  split at post1
  · rename_i hl
    refine ⟨by rw [← r1.1.len]; exact lim_le hl, fun p hp => post1.new R1 hp fun g => ?_⟩
    unfold Rp
    exact ⟨p, _, rfl, upd_same, r1.1.mono g⟩
  · exact post1.elim
theorem d_lst {X : Cx} {es : List Expr} {pos : Pos} {f : DA} (h : PDa T X es f) : PDe T X (.List es pos) (dLst f) := fun pn xe W tk => by
  obtain ⟨t1, p1, d1⟩ := h pn xe W tk
  refine ⟨_, pe_lst p1, fun σ H P ι F δ s Q R E post => ?_⟩
  show t1 σ H _
  refine den_then d1 R E post fun x y H1 ι1 F1 s1 g1 R1 E1 r1 post1 => ?_
  split at post1
  · rename_i hl
    refine ⟨by rw [← r1.1.len]; exact lim_le hl, fun p hp => post1.new R1 hp fun g => ?_⟩
    unfold Rp
    exact ⟨p, _, rfl, upd_same, r1.1.mono g⟩
  · exact post1.elim
/-! ## unary minus -/
def dUn (g : Int → Int) (f : DE) : DE := fun δ s => (f δ s).bind fun x s1 => match x with
  | .int i => .ok (.int (g i)) s1
  | _ => .stuck
theorem d_neg {X : Cx} {a : Expr} {pos : Pos} {f : DE} (h : PDe T X a f) : PDe T X (.UnaryOp .USub a pos) (dUn (fun i => -i) f) := fun pn xe W tk => by
  obtain ⟨t1, p1, d1⟩ := h pn xe W tk
  refine ⟨_, pe_un un_neg p1, fun σ H P ι F δ s Q R E post => ?_⟩
  show t1 σ H _
  refine den_then d1 R E post fun x y H1 ι1 F1 s1 g1 R1 E1 r1 post1 => ?_
  cases x with
  | int i =>
    unfold Rp at r1
    exact ⟨i, r1, post1.here R1 (by unfold Rp; rfl)⟩
  | _ => exact post1.elim
end
end Mp
/-! # MpD -/
namespace Mp
open PySem PySem.Spec L2

/-! ## statements -/
inductive Out where
  | nx (δ : Env) (s : Sto) | rt (d : D) (s : Sto) | bk (δ : Env) (s : Sto) | ct (δ : Env) (s : Sto) | ex (c : Nat) (δ : Env) (s : Sto) | stuck
abbrev DS := Env → Sto → Out
def PostS (T : Tb) (P : Hp) (En : Ends) (W : WX) (F : Hp) (ι : List Addr) : Out → Prop
  | .nx δ' s' => ∀ σ' H' ι' F', Grow F ι F' ι' → RelH T P ι' F' s' H' → REnv T F' ι' δ' σ' → En.nx σ' H'
  | .bk δ' s' => ∀ σ' H' ι' F', Grow F ι F' ι' → RelH T P ι' F' s' H' → REnv T F' ι' δ' σ' → En.bk σ' H'
  | .ct δ' s' => ∀ σ' H' ι' F', Grow F ι F' ι' → RelH T P ι' F' s' H' → REnv T F' ι' δ' σ' → En.ct σ' H'
  | .rt d s' => ∀ v H' ι' F', Grow F ι F' ι' → RelH T P ι' F' s' H' → Rp T F' ι' d v → En.rt v H'
  | .ex c δ' s' => ∀ σ' H' ι' F', Grow F ι F' ι' → RelH T P ι' F' s' H' → REnv T F' ι' δ' σ' → W (.ref (T.ca c)) none σ' H'
  | .stuck => False
theorem PostS.mono {T : Tb} {P : Hp} {En : Ends} {W : WX} {F F1 : Hp} {ι ι1 : List Addr} {r : Out} (g : Grow F ι F1 ι1) (h : PostS T P En W F ι r) : PostS T P En W F1 ι1 r := by
  cases r with
  | stuck => exact h
  | _ => exact fun v H' ι' F' g' => h v H' ι' F' (g.trans g')
def DenS (T : Tb) (W : WX) (t : TS) (g : DS) : Prop := ∀ En σ H P ι F δ s, RelH T P ι F s H → REnv T F ι δ σ → PostS T P En W F ι (g δ s) → t En σ H
def PDs (T : Tb) (X : Cx) (st : Stmt) (g : DS) : Prop := ∀ pn xe W, Takes (X.tr pn xe) W → PassesOwn (model X.prog X.w) X.A X.env xe → ∃ t, PS (X.tr pn xe) st t ∧ DenS T W t g
def PDb (T : Tb) (X : Cx) (st : List Stmt) (g : DS) : Prop := ∀ pn xe W, Takes (X.tr pn xe) W → PassesOwn (model X.prog X.w) X.A X.env xe → ∃ t, PSs (X.tr pn xe) st t ∧ DenS T W t g
/-- a value, then a statement's end -/
def Res.out {α : Type} (δ : Env) : Res α → (α → Sto → Out) → Out
  | .ok a s, k => k a s
  | .exc c s, _ => .ex c δ s
  | .stuck, _ => .stuck
theorem dens_then {α β : Type} {T : Tb} {R1 : Hp → List Addr → α → β → Prop} {W : WX} {t : L2.St → Hp → (β → Hp → Prop) → Prop} {f : Env → Sto → Res α} {k : α → Sto → Out}
    {σ : L2.St} {H P : Hp} {ι : List Addr} {F : Hp} {δ : Env} {s : Sto} {En : Ends} {G : β → Hp → Prop} (h1 : DenG T R1 W t f) (R : RelH T P ι F s H) (E : REnv T F ι δ σ)
    (post : PostS T P En W F ι ((f δ s).out δ k))
    (hk : ∀ x y H1 ι1 F1 s1, Grow F ι F1 ι1 → RelH T P ι1 F1 s1 H1 → REnv T F1 ι1 δ σ → R1 F1 ι1 x y → PostS T P En W F1 ι1 (k x s1) → G y H1) : t σ H G := by
  refine h1 σ H P ι F δ s G R E ?_
  cases e : f δ s with
  | ok x s1 =>
    rw [e] at post
    exact fun v H' ι' F' g R' r => hk x v H' ι' F' s1 g R' (E.mono g) r (post.mono g)
  | exc c s1 =>
    rw [e] at post
    exact fun H' ι' F' g R' => post σ H' ι' F' g R' (E.mono g)
  | stuck =>
    rw [e] at post
    exact post
/-! ## targets -/
abbrev DTg := D → Env → Option Env
def tgN (i : Nat) : DTg := fun d δ => some (δ.set i (some d))
def tgs : List DTg → List D → Env → Option Env
  | [], [], δ => some δ
  | t :: ts, d :: ds, δ => (t d δ).bind fun δ1 => tgs ts ds δ1
  | _, _, _ => none
def tgT (ts : List DTg) : DTg := fun d δ => match d with
  | .tup xs => tgs ts xs δ
  | _ => none
/-- apart from the slots ws they are the same -/
def Off (ws : List Nat) (σ σ' : L2.St) : Prop := σ'.length = σ.length ∧ ∀ j, j ∉ ws → σ'[j]? = σ[j]?
def DenT (T : Tb) (ws : List Nat) (g : TG) (f : DTg) : Prop := ∀ σ H P ι F δ δ' s d v Q, RelH T P ι F s H → REnv T F ι δ σ → Rp T F ι d v → f d δ = some δ' → (∀ σ', REnv T F ι δ' σ' → Off ws σ σ' → Q σ' H) → g v σ H Q
def DenTs (T : Tb) (ws : List Nat) (g : TGs) (f : List DTg) : Prop := ∀ σ H P ι F δ δ' s ds vs Q, RelH T P ι F s H → REnv T F ι δ σ → Rps T F ι ds vs → tgs f ds δ = some δ' → (∀ σ', REnv T F ι δ' σ' → Off ws σ σ' → Q σ' H) → g vs σ H Q
def PDg (T : Tb) (X : Cx) (tg : Expr) (ws : List Nat) (f : DTg) : Prop := ∀ pn xe, ∃ g, PG (X.tr pn xe) tg g ∧ DenT T ws g f
def PDgs (T : Tb) (X : Cx) (tg : List Expr) (ws : List Nat) (f : List DTg) : Prop := ∀ pn xe, ∃ g, PGs (X.tr pn xe) tg g ∧ DenTs T ws g f
theorem Off.refl (ws : List Nat) (σ : L2.St) : Off ws σ σ := ⟨rfl, fun _ _ => rfl⟩
theorem Off.set (σ : L2.St) (i : Nat) (o : Option V) : Off [i] σ (σ.set i o) := ⟨by simp, fun j hj => by rw [List.getElem?_set_ne (by intro h; exact hj (by simp [h]))]⟩
theorem Off.app {ws vs : List Nat} {a b c : L2.St} (h : Off ws a b) (k : Off vs b c) : Off (ws ++ vs) a c :=
  ⟨k.1.trans h.1, fun j hj => (k.2 j (fun z => hj (List.mem_append_right _ z))).trans (h.2 j (fun z => hj (List.mem_append_left _ z)))⟩
theorem wipe_at (σ : L2.St) (j : Nat) : ∀ vs : List Nat, (wipe σ vs)[j]? = if j ∈ vs ∧ j < σ.length then some none else σ[j]?
  | [] => by simp [wipe]
  | v :: vs => by
    unfold wipe
    rw [List.getElem?_set, wipe_length, wipe_at σ j vs]
    by_cases h : v = j
    · subst h
      by_cases hl : v < σ.length
      · simp [hl]
      · simp [hl, List.getElem?_eq_none (Nat.le_of_not_lt hl)]
    · have h' : ¬ j = v := fun z => h z.symm
      simp [h, h']
theorem Off.wipe {ws vs : List Nat} {σ σ' : L2.St} (h : Off ws σ σ') (hs : ∀ i ∈ ws, i ∈ vs) : L2.wipe σ' vs = L2.wipe σ vs := by
  refine List.ext_getElem? fun j => ?_
  rw [wipe_at, wipe_at, h.1]
  by_cases c : j ∈ vs ∧ j < σ.length
  · rw [if_pos c, if_pos c]
  · rw [if_neg c, if_neg c]
    by_cases hj : j ∈ ws
    · have hl : ¬ j < σ.length := fun z => c ⟨hs j hj, z⟩
      rw [List.getElem?_eq_none (Nat.le_of_not_lt hl), List.getElem?_eq_none (by rw [h.1]; exact Nat.le_of_not_lt hl)]
    · exact h.2 j hj
section
variable {T : Tb} {X : Cx}
theorem g_name {x : Str} {pos : Pos} (i : Nat) (hN : X.N.Nodup) (hi : X.N[i]? = some x := by rfl) (hx : Loc X.env.scope x := by first | exact Or.inl rfl | exact Or.inr rfl) (hf : X.fn x = true ∨ X.env.scope.names.lookup x = some .local := by first | exact .inl rfl | exact .inr rfl) : PDg T X (.Name x pos) [i] (tgN i) := fun pn xe =>
  ⟨_, pg_name (X := X.tr pn xe) hN hi hx hf, fun σ H P ι F δ δ' s d v Q R E r e k => by
    cases e
    exact k _ (E.set r i) (Off.set _ _ _)⟩
theorem gs_nil : PDgs T X [] [] [] := fun pn xe => ⟨_, pgs_nil, fun σ H P ι F δ δ' s ds vs Q R E r e k => by
    cases ds with
    | nil =>
      unfold Rps at r
      subst r
      cases e
      exact ⟨rfl, k _ E (Off.refl _ _)⟩
    | cons d ds => cases e⟩
theorem gs_cons {e : Expr} {es : List Expr} {ws vs : List Nat} {f : DTg} {fs : List DTg} (h1 : PDg T X e ws f) (h2 : PDgs T X es vs fs) (hs : (assignEach (e :: es) X.env).map (·.2) = assign e X.env :: (assignEach es X.env).map (·.2) := by rfl) : PDgs T X (e :: es) (ws ++ vs) (f :: fs) := fun pn xe => by
  obtain ⟨g1, p1, d1⟩ := h1 pn xe
  obtain ⟨g2, p2, d2⟩ := h2 pn xe
  refine ⟨_, pgs_cons (X := X.tr pn xe) p1 p2 hs, fun σ H P ι F δ δ' s ds vs Q R E r e k => ?_⟩
  cases ds with
  | nil => cases e
  | cons d ds =>
    unfold Rps at r
    obtain ⟨v, us, rfl, r1, r2⟩ := r
    have e' : (f d δ).bind (fun δ1 => tgs fs ds δ1) = some δ' := e
    cases q : f d δ with
    | none => rw [q] at e'; cases e'
    | some δ1 =>
      rw [q] at e'
      exact ⟨v, us, rfl, d1 _ _ _ _ _ _ _ _ _ _ _ R E r1 q fun σ1 E1 o1 => d2 _ _ _ _ _ _ _ _ _ _ _ R E1 r2 e' fun σ2 E2 o2 => k σ2 E2 (o1.app o2)⟩
theorem tgs_len : ∀ {ts : List DTg} {ds : List D} {δ δ' : Env}, tgs ts ds δ = some δ' → ds.length = ts.length
  | [], [], _, _, _ => rfl
  | [], _ :: _, _, _, e => by cases e
  | _ :: _, [], _, _, e => by cases e
  | t :: ts, d :: ds, δ, δ', e => by
    have e' : (t d δ).bind (fun δ1 => tgs ts ds δ1) = some δ' := e
    cases q : t d δ with
    | none => rw [q] at e'; cases e'
    | some δ1 => rw [q] at e'; simp [tgs_len e']
theorem g_tup {es : List Expr} {k : Nat} {pos : Pos} {ws : List Nat} {fs : List DTg} (h : PDgs T X es ws fs) (hn : (assignEach es X.env).length = fs.length := by rfl) (hst : (assignEach es X.env).findIdx? (·.1) = none := by rfl) (hc : X.calm = true := by rfl) (hK : X.K = T.K := by rfl) : PDg T X (.Tuple es k pos) ws (tgT fs) := fun pn xe => by
  obtain ⟨g1, p1, d1⟩ := h pn xe
  refine ⟨_, pg_tup (X := X.tr pn xe) hc p1 hn hst, fun σ H P ι F δ δ' s d v Q R E r e k => ?_⟩
  cases d with
  | tup xs =>
    obtain ⟨a, vs, rfl, h1, _, h2⟩ := tp_of R r
    have e' : tgs fs xs δ = some δ' := e
    refine ⟨a, vs, rfl, SqT.of h1, ?_, d1 _ _ _ _ _ _ _ _ _ _ _ R E h2 e' k⟩
    rw [← h2.len]
    exact tgs_len e'
  | _ => cases e
/-! ## simple statements -/
def sAsg (f : DE) (t : DTg) : DS := fun δ s => (f δ s).out δ fun d s1 => match t d δ with
  | some δ1 => .nx δ1 s1
  | none => .stuck
theorem s_asg {tg e : Expr} {pos : Pos} {f : DE} {ws : List Nat} {t : DTg} (he : PDe T X e f) (hg : PDg T X tg ws t) (hs : swapsWithSole [tg] e pos.line X.env = pure false := by rfl) (hw : swappedStores [tg] e X.env = pure none := by rfl)
    (h1 : (assignEach [tg] X.env).map (·.2) = [assign tg X.env] := by rfl) : PDs T X (.Assign [tg] e pos) (sAsg f t) := fun pn xe W tk _ => by
  obtain ⟨t1, p1, d1⟩ := he pn xe W tk
  obtain ⟨g1, q1, e1⟩ := hg pn xe
  refine ⟨_, ps_asg (X := X.tr pn xe) p1 q1 hs hw h1, fun En σ H P ι F δ s R E post => ?_⟩
  show t1 σ H _
  refine dens_then d1 R E post fun x y H1 ι1 F1 s1 g R1 E1 r1 post1 => ?_
  cases q : t x δ with
  | none => rw [q] at post1; exact post1.elim
  | some δ1 =>
    rw [q] at post1
    exact e1 _ _ _ _ _ _ _ _ _ _ _ R1 E1 r1 q fun σ' E' _ => post1 σ' H1 ι1 F1 (Grow.refl _ _) R1 E'
def sSet (i : Nat) (f : DE) : DS := sAsg f (tgN i)
theorem s_set {x : Str} {e : Expr} {pos pos' : Pos} {f : DE} (i : Nat) (hN : X.N.Nodup) (he : PDe T X e f) (hi : X.N[i]? = some x := by rfl) (hx : Loc X.env.scope x := by first | exact Or.inl rfl | exact Or.inr rfl)
    (hs : swapsWith e (some (.Name x pos')) pos.line X.env = pure false := by rfl) (hf : X.fn x = true ∨ X.env.scope.names.lookup x = some .local := by first | exact .inl rfl | exact .inr rfl) : PDs T X (.Assign [.Name x pos'] e pos) (sSet i f) := fun pn xe W tk _ => by
  obtain ⟨t1, p1, d1⟩ := he pn xe W tk
  refine ⟨_, ps_set (X := X.tr pn xe) hN hi hx p1 hs hf, fun En σ H P ι F δ s R E post => ?_⟩
  show t1 σ H _
  refine dens_then d1 R E post fun x y H1 ι1 F1 s1 g R1 E1 r1 post1 => ?_
  exact post1 _ H1 ι1 F1 (Grow.refl _ _) R1 (E1.set r1 i)
def sDrop (f : DE) : DS := fun δ s => (f δ s).out δ fun _ s1 => .nx δ s1
theorem s_expr {e : Expr} {pos : Pos} {f : DE} (he : PDe T X e f) (hs : swapsWith e none pos.line X.env = pure false := by rfl) : PDs T X (.Expr e pos) (sDrop f) := fun pn xe W tk _ => by
  obtain ⟨t1, p1, d1⟩ := he pn xe W tk
  refine ⟨_, ps_expr (X := X.tr pn xe) p1 hs, fun En σ H P ι F δ s R E post => ?_⟩
  show t1 σ H _
  refine dens_then d1 R E post fun x y H1 ι1 F1 s1 g R1 E1 r1 post1 => ?_
  exact post1 _ H1 ι1 F1 (Grow.refl _ _) R1 E1
def sRet (f : DE) : DS := fun δ s => (f δ s).out δ fun d s1 => .rt d s1
theorem s_ret {e : Expr} {pos : Pos} {f : DE} (he : PDe T X e f) : PDs T X (.Return (some e) pos) (sRet f) := fun pn xe W tk _ => by
  obtain ⟨t1, p1, d1⟩ := he pn xe W tk
  refine ⟨_, ps_ret p1, fun En σ H P ι F δ s R E post => ?_⟩
  show t1 σ H _
  refine dens_then d1 R E post fun x y H1 ι1 F1 s1 g R1 E1 r1 post1 => ?_
  exact post1 y H1 ι1 F1 (Grow.refl _ _) R1 r1
def sRetN : DS := fun _ s => .rt .non s
theorem s_retN {pos : Pos} : PDs T X (.Return none pos) sRetN := fun pn xe W _ _ => ⟨_, ps_retN, fun En σ H P ι F δ s R E post => post .non H ι F (Grow.refl _ _) R (by unfold Rp; rfl)⟩
def sPass : DS := fun δ s => .nx δ s
def sBrk : DS := fun δ s => .bk δ s
def sCt : DS := fun δ s => .ct δ s
theorem s_pass {pos : Pos} : PDs T X (.Pass pos) sPass := fun pn xe W _ _ => ⟨_, ps_pass, fun En σ H P ι F δ s R E post => post σ H ι F (Grow.refl _ _) R E⟩
theorem s_brk {pos : Pos} : PDs T X (.Break pos) sBrk := fun pn xe W _ _ => ⟨_, ps_break, fun En σ H P ι F δ s R E post => post σ H ι F (Grow.refl _ _) R E⟩
theorem s_ct {pos : Pos} : PDs T X (.Continue pos) sCt := fun pn xe W _ _ => ⟨_, ps_continue, fun En σ H P ι F δ s R E post => post σ H ι F (Grow.refl _ _) R E⟩
def sIf (c : DT) (f g : DS) : DS := fun δ s => (c δ s).out δ fun b s1 => match b with
  | true => f δ s1
  | false => g δ s1
theorem s_if {c : Expr} {a b : List Stmt} {pos : Pos} {fc : DT} {f g : DS} (hc : PDt T X c fc) (ha : PDb T X a f) (hb : PDb T X b g) : PDs T X (.If c a b pos) (sIf fc f g) := fun pn xe W tk ow => by
  obtain ⟨t0, p0, d0⟩ := hc pn xe W tk
  obtain ⟨t1, p1, d1⟩ := ha pn xe W tk ow
  obtain ⟨t2, p2, d2⟩ := hb pn xe W tk ow
  refine ⟨_, ps_if p0 p1 p2, fun En σ H P ι F δ s R E post => ?_⟩
  show t0 σ H _
  refine dens_then d0 R E post fun x y H1 ι1 F1 s1 g R1 E1 r1 post1 => ?_
  cases r1
  cases x with
  | true =>
    rw [if_pos rfl]
    exact d1 _ _ _ _ _ _ _ _ R1 E1 post1
  | false =>
    rw [if_neg Bool.false_ne_true]
    exact d2 _ _ _ _ _ _ _ _ R1 E1 post1
/-! ## blocks -/
def Out.andThen (o : Out) (k : DS) : Out := match o with
  | .nx δ s => k δ s
  | o => o
def sSeq (f g : DS) : DS := fun δ s => (f δ s).andThen g
theorem b_nil : PDb T X [] sPass := fun pn xe W _ _ => ⟨_, pss_nil, fun En σ H P ι F δ s R E post => post σ H ι F (Grow.refl _ _) R E⟩
theorem b_one {st : Stmt} {f : DS} (h : PDs T X st f) : PDb T X [st] f := fun pn xe W tk ow => by
  obtain ⟨t1, p1, d1⟩ := h pn xe W tk ow
  exact ⟨_, pss_one p1, d1⟩
theorem b_cons {st : Stmt} {rest : List Stmt} {f g : DS} (h : PDs T X st f) (hr : PDb T X rest g) : PDb T X (st :: rest) (sSeq f g) := fun pn xe W tk ow => by
  obtain ⟨t1, p1, d1⟩ := h pn xe W tk ow
  obtain ⟨t2, p2, d2⟩ := hr pn xe W tk ow
  refine ⟨_, pss_cons p1 p2, fun En σ H P ι F δ s R E post => ?_⟩
  show t1 { En with nx := t2 En } σ H
  refine d1 _ _ _ _ _ _ _ _ R E ?_
  unfold sSeq at post
  cases e : f δ s with
  | nx δ1 s1 =>
    rw [e] at post
    exact fun σ' H' ι' F' g' R' E' => d2 _ _ _ _ _ _ _ _ R' E' (post.mono g')
  | rt d s1 => rw [e] at post; exact post
  | bk δ1 s1 => rw [e] at post; exact post
  | ct δ1 s1 => rw [e] at post; exact post
  | ex c δ1 s1 => rw [e] at post; exact post
  | stuck => rw [e] at post; exact post
/-! ## iterables -/
def Walks (T : Tb) (J : It) (ds : List D) (F : Hp) (ι : List Addr) : Prop :=
  L2.Walk J ds.length (fun H => ∀ a o, F a = some o → H a = some o) fun i H x H2 => ∃ d, ds[i]? = some d ∧
    ((H2 = H ∧ Rp T F ι d x) ∨ ∃ p vs xs, x = .ref p ∧ H p = none ∧ H2 = upd H p (.tup vs) ∧ d = .tup xs ∧ Rps T F ι xs vs)
abbrev DIt := Env → Sto → Res (List D)
def DenI (T : Tb) (W : WX) (wi : TI) (f : DIt) : Prop := DenG T (fun F ι ds J => Walks T J ds F ι) W wi f
def PDi (T : Tb) (X : Cx) (tg iter : Expr) (f : DIt) : Prop := ∀ pn xe W, Takes (X.tr pn xe) W → ∃ wi, PI (X.tr pn xe) tg iter wi ∧ DenI T W wi f
theorem get_lt {α : Type} {xs : List α} {i : Nat} (h : i < xs.length) : ∃ x, xs[i]? = some x := ⟨xs[i], by simp [h]⟩
theorem walks_list {F : Hp} {ι : List Addr} {a : Addr} {vs : List V} {ds : List D} (h : SqL T.K F a vs) (r : Rps T F ι ds vs) : Walks T (Itl T.K a) ds F ι := by
  have w : L2.Walk (Itl T.K a) vs.length (fun H => SqL T.K H a vs) (YAt vs) := walk_list
  unfold Walks
  rw [r.len]
  refine w.mono (fun H hF => sql_mono hF h) fun i H x H' hi hF y => ?_
  obtain ⟨e1, e2⟩ := y
  have hi' : i < ds.length := by rw [r.len]; exact hi
  obtain ⟨d, hd⟩ := get_lt hi'
  obtain ⟨v, h1, h2⟩ := r.get hd
  rw [e2] at h1
  cases h1
  exact ⟨d, hd, .inl ⟨e1, h2⟩⟩
theorem walks_tup {F : Hp} {ι : List Addr} {a : Addr} {vs : List V} {ds : List D} (h : F a = some (.tup vs)) (r : Rps T F ι ds vs) : Walks T (Itt T.K a) ds F ι := by
  have w : L2.Walk (Itt T.K a) vs.length (fun H => SqT T.K H a vs) (YAt vs) := walk_tup
  unfold Walks
  rw [r.len]
  refine w.mono (fun H hF => SqT.of (hF _ _ h)) fun i H x H' hi hF y => ?_
  obtain ⟨e1, e2⟩ := y
  have hi' : i < ds.length := by rw [r.len]; exact hi
  obtain ⟨d, hd⟩ := get_lt hi'
  obtain ⟨v, h1, h2⟩ := r.get hd
  rw [e2] at h1
  cases h1
  exact ⟨d, hd, .inl ⟨e1, h2⟩⟩
/-- a list or a tuple that stays -/
def itSeq (f : DE) : DIt := fun δ s => (f δ s).bind fun x s1 => match x with
  | .lst xs => .ok xs s1
  | .scr ns => .ok (ns.map D.int) s1
  | .tup xs => .ok xs s1
  | _ => .stuck
theorem PI.or {tg e : Expr} {w w' : TI} (h : PI X tg e w) (h' : PI X tg e w') : PI X tg e (fun σ H R => w σ H R ∨ w' σ H R) := ⟨fun pins s σ H R I q => by
  rcases q with q | q
  · exact h.run pins s σ H R I q
  · exact h'.run pins s σ H R I q⟩
theorem den_iL {W : WX} {t : TE} {f : DE} (h : DenG T (Rp T) W t f) {σ : L2.St} {H P : Hp} {ι : List Addr} {F : Hp} {δ : Env} {s : Sto} {Q : It → Hp → Prop} (R : RelH T P ι F s H) (E : REnv T F ι δ σ)
    (post : Post T P (fun F ι ds J => Walks T J ds F ι) Q (fun c H' => W (.ref (T.ca c)) none σ H') F ι ((f δ s).bind fun x s1 => match x with
      | .lst xs => .ok xs s1
      | .scr ns => .ok (ns.map D.int) s1
      | _ => .stuck)) : iList T.K t σ H Q := by
  show t σ H _
  refine den_then h R E post fun x y H1 ι1 F1 s1 g R1 E1 r1 post1 => ?_
  cases x with
  | lst xs =>
    unfold Rp at r1
    obtain ⟨a, vs, rfl, h1, h2⟩ := r1
    exact ⟨a, rfl, ⟨vs, SqL.of (R1.sub _ _ h1)⟩, post1.here R1 (walks_list (SqL.of h1) h2)⟩
  | scr ns =>
    unfold Rp at r1
    obtain ⟨a, rfl, h1⟩ := r1
    exact ⟨a, rfl, ⟨_, sql_mono R1.sub h1⟩, post1.here R1 (walks_list h1 (rps_ints ns))⟩
  | _ => exact post1.elim
theorem den_iT {W : WX} {t : TE} {f : DE} (h : DenG T (Rp T) W t f) {σ : L2.St} {H P : Hp} {ι : List Addr} {F : Hp} {δ : Env} {s : Sto} {Q : It → Hp → Prop} (R : RelH T P ι F s H) (E : REnv T F ι δ σ)
    (post : Post T P (fun F ι ds J => Walks T J ds F ι) Q (fun c H' => W (.ref (T.ca c)) none σ H') F ι ((f δ s).bind fun x s1 => match x with
      | .tup xs => .ok xs s1
      | _ => .stuck)) : iTup T.K t σ H Q := by
  show t σ H _
  refine den_then h R E post fun x y H1 ι1 F1 s1 g R1 E1 r1 post1 => ?_
  cases x with
  | tup xs =>
    obtain ⟨a, vs, rfl, h1, h0, h2⟩ := tp_of R1 r1
    exact ⟨a, rfl, ⟨vs, SqT.of h1⟩, post1.here R1 (walks_tup h0 h2)⟩
  | _ => exact post1.elim
theorem i_seq {tg e : Expr} {f : DE} (h : PDe T X e f) (hK : X.K = T.K := by rfl) : PDi T X tg e (itSeq f) := fun pn xe W tk => by
  obtain ⟨t1, p1, d1⟩ := h pn xe W tk
  have hK' : (X.tr pn xe).K = T.K := hK
  refine ⟨_, PI.or (pi_list p1) (pi_tup p1), fun σ H P ι F δ s Q R E post => ?_⟩
  rw [hK']
  unfold itSeq at post
  cases e : f δ s with
  | ok x s1 =>
    rw [e] at post
    cases x with
    | lst xs => exact .inl (den_iL d1 R E (by rw [e]; exact post))
    | scr ns => exact .inl (den_iL d1 R E (by rw [e]; exact post))
    | tup xs => exact .inr (den_iT d1 R E (by rw [e]; exact post))
    | _ => exact post.elim
  | exc c s1 => rw [e] at post; exact .inl (den_iL d1 R E (by rw [e]; exact post))
  | stuck => rw [e] at post; exact post.elim
/-- range(n), range(a, b) -/
def intsD (a : Int) (n : Nat) : List D := (List.range n).map fun (i : Nat) => D.int (a + (i : Int))
def small62 (i : Int) : Bool := decide (-(2 ^ 62) ≤ i) && decide (i < 2 ^ 62)
def itR1 (f : DA) : DIt := fun δ s => (f δ s).bind fun xs s1 => match xs with
  | [.int n] => if small62 n = true then .ok (intsD 0 n.toNat) s1 else .stuck
  | _ => .stuck
def itR2 (f : DA) : DIt := fun δ s => (f δ s).bind fun xs s1 => match xs with
  | [.int a, .int b] => if (small62 a && small62 b) = true then .ok (intsD a (b - a).toNat) s1 else .stuck
  | _ => .stuck
theorem walks_range {F : Hp} {ι : List Addr} (a : Int) (n : Nat) : Walks T (Itr a n) (intsD a n) F ι := by
  have w : L2.Walk (Itr a n) n (fun _ => True) (YFn fun i => .int (a + i)) := walk_range
  unfold Walks
  have hl : (intsD a n).length = n := by simp [intsD]
  rw [hl]
  refine w.mono (fun H hF => trivial) fun i H x H' hi hF y => ?_
  obtain ⟨e1, e2⟩ := y
  refine ⟨.int (a + i), ?_, .inl ⟨e1, by unfold Rp; exact e2⟩⟩
  simp [intsD, List.getElem?_range hi]
theorem rps1 {F : Hp} {ι : List Addr} {d : D} {vs : List V} (r : Rps T F ι [d] vs) : ∃ v, vs = [v] ∧ Rp T F ι d v := by
  unfold Rps at r
  obtain ⟨v, us, rfl, h1, h2⟩ := r
  unfold Rps at h2
  subst h2
  exact ⟨v, rfl, h1⟩
theorem rps2 {F : Hp} {ι : List Addr} {d e : D} {vs : List V} (r : Rps T F ι [d, e] vs) : ∃ v u, vs = [v, u] ∧ Rp T F ι d v ∧ Rp T F ι e u := by
  unfold Rps at r
  obtain ⟨v, us, rfl, h1, h2⟩ := r
  obtain ⟨u, rfl, h3⟩ := rps1 h2
  exact ⟨v, u, rfl, h1, h3⟩
theorem i_range1 {tg a : Expr} {p pos : Pos} {f : DA} (hm : X.mg "range" = none) (ha : PDa T X [a] f) (hg : Gl X "range" := by rfl) (hs : starEach [a] X.env = [(false, eval a X.env)] := by rfl) : PDi T X tg (.Call (.Name "range" p) [a] [] pos) (itR1 f) := fun pn xe W tk => by
  obtain ⟨t1, p1, d1⟩ := ha pn xe W tk
  refine ⟨_, pi_range1 (X := X.tr pn xe) hg hm p1 hs, fun σ H P ι F δ s Q R E post => ?_⟩
  show t1 σ H _
  refine den_then d1 R E post fun x y H1 ι1 F1 s1 g R1 E1 r1 post1 => ?_
  split at post1
  · obtain ⟨v, rfl, h1⟩ := rps1 r1.1
    unfold Rp at h1
    split at post1
    · rename_i hn
      unfold small62 at hn
      simp only [Bool.and_eq_true, decide_eq_true_eq] at hn
      exact ⟨_, by rw [h1], hn.1, hn.2, post1.here R1 (walks_range _ _)⟩
    · exact post1.elim
  · exact post1.elim
theorem i_range2 {tg a b : Expr} {p pos : Pos} {f : DA} (hm : X.mg "range" = none) (ha : PDa T X [a, b] f) (hg : Gl X "range" := by rfl) (hs : starEach [a, b] X.env = [(false, eval a X.env), (false, eval b X.env)] := by rfl) (hs2 : starEach [b] X.env = [(false, eval b X.env)] := by rfl) : PDi T X tg (.Call (.Name "range" p) [a, b] [] pos) (itR2 f) := fun pn xe W tk => by
  obtain ⟨t1, p1, d1⟩ := ha pn xe W tk
  refine ⟨_, pi_range2 (X := X.tr pn xe) hg hm p1 hs hs2, fun σ H P ι F δ s Q R E post => ?_⟩
  show t1 σ H _
  refine den_then d1 R E post fun x y H1 ι1 F1 s1 g R1 E1 r1 post1 => ?_
  split at post1
  · obtain ⟨v, u, rfl, h1, h2⟩ := rps2 r1.1
    unfold Rp at h1 h2
    split at post1
    · rename_i hn
      unfold small62 at hn
      simp only [Bool.and_eq_true, decide_eq_true_eq] at hn
      exact ⟨_, _, by rw [h1, h2], ⟨hn.1.1, hn.1.2, hn.2.1, hn.2.2⟩, post1.here R1 (walks_range _ _)⟩
    · exact post1.elim
  · exact post1.elim
/-- zip of two lists, of two tuples -/
def zipD : List D → List D → List D
  | x :: xs, y :: ys => .tup [x, y] :: zipD xs ys
  | _, _ => []
theorem zipD_len : ∀ (xs ys : List D), (zipD xs ys).length = min xs.length ys.length
  | [], _ => by simp [zipD]
  | _ :: _, [] => by simp [zipD]
  | x :: xs, y :: ys => by simp [zipD, zipD_len xs ys]
theorem zipD_at : ∀ {xs ys : List D} {i : Nat} {x y : D}, xs[i]? = some x → ys[i]? = some y → (zipD xs ys)[i]? = some (.tup [x, y])
  | [], _, _, _, _, h, _ => by simp at h
  | _ :: _, [], _, _, _, _, h => by simp at h
  | a :: xs, b :: ys, 0, x, y, h, k => by simp at h k; subst h k; rfl
  | a :: xs, b :: ys, i + 1, x, y, h, k => by
    have := zipD_at (xs := xs) (ys := ys) (i := i) (x := x) (y := y) (by simpa using h) (by simpa using k)
    simpa [zipD] using this
def itZip (f : DA) : DIt := fun δ s => (f δ s).bind fun xs s1 => match xs with
  | [.lst a, .lst b] => .ok (zipD a b) s1
  | [.tup a, .tup b] => .ok (zipD a b) s1
  | _ => .stuck
theorem walks_zip {F : Hp} {ι : List Addr} {a b : Addr} {vs us : List V} {ds es : List D} (h : SqL T.K F a vs) (h' : SqL T.K F b us) (r : Rps T F ι ds vs) (r' : Rps T F ι es us) : Walks T (Itz T.K a b) (zipD ds es) F ι := by
  have w : L2.Walk (Itz T.K a b) (min vs.length us.length) (fun H => SqL T.K H a vs ∧ SqL T.K H b us) (YPair (fun i => vs[i]?) (fun i => us[i]?)) := walk_zip rfl
  unfold Walks
  rw [zipD_len, r.len, r'.len]
  refine w.mono (fun H hF => ⟨sql_mono hF h, sql_mono hF h'⟩) fun i H x H' hi hF y => ?_
  obtain ⟨p, v, u, e1, e2, e3, e4, e5⟩ := y
  have hi1 : i < ds.length := by rw [r.len]; omega
  have hi2 : i < es.length := by rw [r'.len]; omega
  obtain ⟨d, hd⟩ := get_lt hi1
  obtain ⟨e, he⟩ := get_lt hi2
  obtain ⟨v', h1, h2⟩ := r.get hd
  obtain ⟨u', h3, h4⟩ := r'.get he
  have e4' : vs[i]? = some v := e4
  have e5' : us[i]? = some u := e5
  rw [e4'] at h1
  rw [e5'] at h3
  cases h1
  cases h3
  exact ⟨_, zipD_at hd he, .inr ⟨p, [v, u], [d, e], e1, e2, e3, rfl, .cons h2 (.cons h4 .nil)⟩⟩
theorem walk_zipT {K : PySem.W.Frag} {a b : Addr} {xs ys : List V} : L2.Walk (RZ.ItzT K a b) (min xs.length ys.length) (fun H => H a = some (.tup xs) ∧ H b = some (.tup ys)) (YPair (fun i => xs[i]?) (fun i => ys[i]?)) where
  goes := fun i H hi h => by
    obtain ⟨x, hx⟩ := get_lt (xs := xs) (i := i) (by omega)
    obtain ⟨y, hy⟩ := get_lt (xs := ys) (i := i) (by omega)
    exact ⟨xs, ys, x, y, SqT.of h.1, SqT.of h.2, hx, hy⟩
  stops := fun H h => ⟨xs, ys, SqT.of h.1, SqT.of h.2, by omega⟩
  yields := fun i H x H' hi h y => by
    obtain ⟨p, v, u, e1, e2, e3, e4, e5⟩ := y
    exact ⟨p, v, u, e1, e2, e3, e4 _ (SqT.of h.1), e5 _ (SqT.of h.2)⟩
theorem walks_zipT {F : Hp} {ι : List Addr} {a b : Addr} {vs us : List V} {ds es : List D} (h : F a = some (.tup vs)) (h' : F b = some (.tup us)) (r : Rps T F ι ds vs) (r' : Rps T F ι es us) : Walks T (RZ.ItzT T.K a b) (zipD ds es) F ι := by
  have w : L2.Walk (RZ.ItzT T.K a b) (min vs.length us.length) (fun H => H a = some (.tup vs) ∧ H b = some (.tup us)) (YPair (fun i => vs[i]?) (fun i => us[i]?)) := walk_zipT
  unfold Walks
  rw [zipD_len, r.len, r'.len]
  refine w.mono (fun H hF => ⟨hF _ _ h, hF _ _ h'⟩) fun i H x H' hi hF y => ?_
  obtain ⟨p, v, u, e1, e2, e3, e4, e5⟩ := y
  have hi1 : i < ds.length := by rw [r.len]; omega
  have hi2 : i < es.length := by rw [r'.len]; omega
  obtain ⟨d, hd⟩ := get_lt hi1
  obtain ⟨e, he⟩ := get_lt hi2
  obtain ⟨v', h1, h2⟩ := r.get hd
  obtain ⟨u', h3, h4⟩ := r'.get he
  have e4' : vs[i]? = some v := e4
  have e5' : us[i]? = some u := e5
  rw [e4'] at h1
  rw [e5'] at h3
  cases h1
  cases h3
  exact ⟨_, zipD_at hd he, .inr ⟨p, [v, u], [d, e], e1, e2, e3, rfl, .cons h2 (.cons h4 .nil)⟩⟩
theorem i_zip {e e2 : Expr} {p pos tpos : Pos} {elts : List Expr} {kk : Nat} {f : DA} (hm : X.mg "zip" = none) (ha : PDa T X [e, e2] f) (hg : Gl X "zip" := by rfl)
    (hs : starEach [e, e2] X.env = (false, eval e X.env) :: starEach [e2] X.env := by rfl) (hpl : (backTo pos (starEach [e2] X.env)).any (·.1) = false := by rfl) (hK : X.K = T.K := by rfl) :
    PDi T X (.Tuple elts kk tpos) (.Call (.Name "zip" p) [e, e2] [] pos) (itZip f) := fun pn xe W tk => by
  obtain ⟨t1, p1, d1⟩ := ha pn xe W tk
  have hK' : (X.tr pn xe).K = T.K := hK
  refine ⟨_, RZ.pi_zipA (X := X.tr pn xe) hg hm p1 hs hpl, fun σ H P ι F δ s Q R E post => ?_⟩
  rw [hK']
  show t1 σ H _
  refine den_then d1 R E post fun x y H1 ι1 F1 s1 g R1 E1 r1 post1 => ?_
  split at post1
  · obtain ⟨v, u, rfl, h1, h2⟩ := rps2 r1.1
    unfold Rp at h1 h2
    obtain ⟨a, vs, rfl, h3, h4⟩ := h1
    obtain ⟨b, us, rfl, h5, h6⟩ := h2
    exact ⟨a, b, vs, us, rfl, .inl ⟨SqL.of (R1.sub _ _ h3), SqL.of (R1.sub _ _ h5), post1.here R1 (walks_zip (SqL.of h3) (SqL.of h5) h4 h6)⟩⟩
  · obtain ⟨v, u, rfl, h1, h2⟩ := rps2 r1.1
    obtain ⟨a, vs, rfl, h3, h3', h4⟩ := tp_of R1 h1
    obtain ⟨b, us, rfl, h5, h5', h6⟩ := tp_of R1 h2
    exact ⟨a, b, vs, us, rfl, .inr ⟨SqT.of h3, SqT.of h5, post1.here R1 (walks_zipT h3' h5' h4 h6)⟩⟩
  · exact post1.elim
/-! ## for -/
def forL (t : DTg) (body : DS) : List D → DS
  | [], δ, s => .nx δ s
  | d :: r, δ, s => match t d δ with
    | none => .stuck
    | some δ1 => match body δ1 s with
      | .nx δ2 s2 => forL t body r δ2 s2
      | .ct δ2 s2 => forL t body r δ2 s2
      | .bk δ2 s2 => .nx δ2 s2
      | o => o
def sFor (it : DIt) (t : DTg) (body : DS) : DS := fun δ s => (it δ s).out δ fun ds s1 => forL t body ds δ s1
theorem drop_get {α : Type} {xs : List α} {i : Nat} {x : α} (h : xs[i]? = some x) : xs.drop i = x :: xs.drop (i + 1) := by
  have hi := (List.getElem?_eq_some_iff.mp h).1
  have e := (List.getElem?_eq_some_iff.mp h).2
  rw [List.drop_eq_getElem_cons hi, e]
/-- the item has come: the heap goes on, the item is at hand -/
theorem item_ok {P : Hp} {ι0 ι : List Addr} {F0 F : Hp} {s : Sto} {H H2 : Hp} {d : D} {x : V} (g : Grow F0 ι0 F ι) (R : RelH T P ι F s H) (y : (H2 = H ∧ Rp T F0 ι0 d x) ∨ ∃ p vs xs, x = .ref p ∧ H p = none ∧ H2 = upd H p (.tup vs) ∧ d = .tup xs ∧ Rps T F0 ι0 xs vs) :
    ∃ F', Grow F ι F' ι ∧ RelH T P ι F' s H2 ∧ Rp T F' ι d x := by
  rcases y with ⟨e, r⟩ | ⟨p, vs, xs, e1, e2, e3, e4, e5⟩
  · subst e
    exact ⟨F, Grow.refl _ _, R, r.mono g⟩
  · subst e1 e3 e4
    refine ⟨upd F p (.tup vs), grow_new (R.freeF e2) _, R.new e2 _, ?_⟩
    unfold Rp
    exact ⟨p, vs, rfl, upd_same, e5.mono (g.trans (grow_new (R.freeF e2) _))⟩
theorem den_for {W : WX} {wi : TI} {f : DIt} {g : TG} {ws : List Nat} {t : DTg} {tb : TS} {body : DS} (hi : DenI T W wi f) (hg : DenT T ws g t) (hb : DenS T W tb body) : DenS T W (tFor wi g tb) (sFor f t body) := fun En σ H P ι F δ s R E post => by
  show wi σ H _
  refine dens_then hi R E post fun ds J H1 ι1 F1 s1 g1 R1 E1 w post1 => ?_
  refine for_it w (fun i σ' H' => ∃ ι' F' δ' s', Grow F1 ι1 F' ι' ∧ RelH T P ι' F' s' H' ∧ REnv T F' ι' δ' σ' ∧ PostS T P En W F' ι' (forL t body (ds.drop i) δ' s')) ⟨ι1, F1, δ, s1, Grow.refl _ _, R1, E1, by simpa using post1⟩ ?_ ?_ ?_
  · rintro i σ' H' _ ⟨ι', F', δ', s', g', R', E', _⟩
    exact fun a o h => R'.sub _ _ (g'.1 _ _ h)
  · rintro i x σ' H' H2 hi ⟨ι', F', δ', s', g', R', E', post'⟩ ⟨d, hd, y⟩
    obtain ⟨F2, g2, R2, r2⟩ := item_ok g' R' y
    rw [drop_get hd] at post'
    unfold forL at post'
    cases q : t d δ' with
    | none => rw [q] at post'; exact post'.elim
    | some δ1 =>
      rw [q] at post'
      dsimp only at post'
      refine hg _ _ _ _ _ _ _ _ _ _ _ R2 (E'.mono g2) r2 q fun σ2 E2 _ => ?_
      refine hb _ _ _ _ _ _ _ _ R2 E2 ?_
      cases qb : body δ1 s' with
      | nx δ2 s2 =>
        rw [qb] at post'
        exact fun σ3 H3 ι3 F3 g3 R3 E3 => ⟨ι3, F3, δ2, s2, (g'.trans g2).trans g3, R3, E3, post'.mono (g2.trans g3)⟩
      | ct δ2 s2 =>
        rw [qb] at post'
        exact fun σ3 H3 ι3 F3 g3 R3 E3 => ⟨ι3, F3, δ2, s2, (g'.trans g2).trans g3, R3, E3, post'.mono (g2.trans g3)⟩
      | bk δ2 s2 =>
        rw [qb] at post'
        exact post'.mono g2
      | rt d2 s2 =>
        rw [qb] at post'
        exact post'.mono g2
      | ex c δ2 s2 =>
        rw [qb] at post'
        exact post'.mono g2
      | stuck => rw [qb] at post'; exact post'.elim
  · rintro σ' H' ⟨ι', F', δ', s', g', R', E', post'⟩
    rw [List.drop_length] at post'
    exact post' σ' H' ι' F' (Grow.refl _ _) R' E'
theorem s_for {tg iter : Expr} {body : List Stmt} {pos : Pos} {f : DIt} {ws : List Nat} {t : DTg} {g : DS} (hi : PDi T X tg iter f) (hg : PDg T X tg ws t) (hb : PDb T X body g) (hc : X.calm = true := by rfl) (hs : ∀ x, foldedSetIterable iter X.env x = pure x := by intro _; rfl) : PDs T X (.For tg iter body [] pos) (sFor f t g) := fun pn xe W tk ow => by
  obtain ⟨wi, p1, d1⟩ := hi pn xe W tk
  obtain ⟨g1, p2, d2⟩ := hg pn xe
  obtain ⟨tb, p3, d3⟩ := hb pn xe W tk ow
  exact ⟨_, ps_for (X := X.tr pn xe) ow hc p1 p2 p3 hs, den_for d1 d2 d3⟩
/-! ## while, so many turns at the most -/
def whL (c : DT) (body : DS) : Nat → DS
  | 0, _, _ => .stuck
  | n + 1, δ, s => (c δ s).out δ fun b s1 => match b with
    | false => .nx δ s1
    | true => match body δ s1 with
      | .nx δ2 s2 => whL c body n δ2 s2
      | .ct δ2 s2 => whL c body n δ2 s2
      | .bk δ2 s2 => .nx δ2 s2
      | o => o
def sWh (n : Nat) (c : DT) (body : DS) : DS := whL c body n
theorem den_while {W : WX} {tc : TT} {c : DT} {tb : TS} {body : DS} (n : Nat) (hc : DenG T eqR W tc c) (hb : DenS T W tb body) : DenS T W (tWhile tc tb) (sWh n c body) := fun En σ H P ι F δ s R E post => by
  refine ⟨fun m σ' H' => ∃ ι' F' δ' s', RelH T P ι' F' s' H' ∧ REnv T F' ι' δ' σ' ∧ PostS T P En W F' ι' (whL c body m δ' s'), ⟨n, ι, F, δ, s, R, E, post⟩, ?_⟩
  rintro m σ' H' ⟨ι', F', δ', s', R', E', post'⟩
  cases m with
  | zero => exact post'.elim
  | succ m =>
    unfold whL at post'
    refine dens_then hc R' E' post' fun b b' H1 ι1 F1 s1 g1 R1 E1 eb post1 => ?_
    cases eb
    cases b with
    | false =>
      rw [if_neg Bool.false_ne_true]
      exact post1 _ _ _ _ (Grow.refl _ _) R1 E1
    | true =>
      rw [if_pos rfl]
      refine ⟨fun σ2 H2 => ∃ ι2 F2 δ2 s2, RelH T P ι2 F2 s2 H2 ∧ REnv T F2 ι2 δ2 σ2 ∧ PostS T P En W F2 ι2 (whL c body m δ2 s2), fun σ2 H2 z => ⟨m, Nat.lt_succ_self _, z⟩, ?_⟩
      refine hb _ _ _ _ _ _ _ _ R1 E1 ?_
      dsimp only at post1
      cases qb : body δ' s1 with
      | nx δ2 s2 =>
        rw [qb] at post1
        exact fun σ3 H3 ι3 F3 g3 R3 E3 => ⟨ι3, F3, δ2, s2, R3, E3, post1.mono g3⟩
      | ct δ2 s2 =>
        rw [qb] at post1
        exact fun σ3 H3 ι3 F3 g3 R3 E3 => ⟨ι3, F3, δ2, s2, R3, E3, post1.mono g3⟩
      | bk δ2 s2 => rw [qb] at post1; exact post1
      | rt d2 s2 => rw [qb] at post1; exact post1
      | ex c δ2 s2 => rw [qb] at post1; exact post1
      | stuck => rw [qb] at post1; exact post1.elim
theorem s_while {c : Expr} {body : List Stmt} {pos : Pos} {fc : DT} {g : DS} (n : Nat) (hc : PDt T X c fc) (hb : PDb T X body g) : PDs T X (.While c body [] pos) (sWh n fc g) := fun pn xe W tk ow => by
  obtain ⟨t0, p0, d0⟩ := hc pn xe W tk
  obtain ⟨t1, p1, d1⟩ := hb pn xe W tk ow
  exact ⟨_, ps_while (X := X.tr pn xe) ow p0 p1, den_while n d0 d1⟩
end
end Mp
/-! # MpE -/
namespace Mp
open PySem PySem.Spec L2

/-! ## canonical readings: one reading for all contexts -/
def canE {α β : Type} (T : Tb) (Rl : Hp → List Addr → α → β → Prop) (W : WX) (f : Env → Sto → Res α) : L2.St → Hp → (β → Hp → Prop) → Prop := fun σ H Q =>
  ∃ P ι F δ s, RelH T P ι F s H ∧ REnv T F ι δ σ ∧ Post T P Rl Q (fun c H' => W (.ref (T.ca c)) none σ H') F ι (f δ s)
def canT (T : Tb) (ws : List Nat) (f : DTg) : TG := fun v σ H Q => ∃ P ι F δ δ' s d, RelH T P ι F s H ∧ REnv T F ι δ σ ∧ Rp T F ι d v ∧ f d δ = some δ' ∧ ∀ σ', REnv T F ι δ' σ' → Off ws σ σ' → Q σ' H
section
variable {T : Tb} {X : Cx}
theorem PE.weak {e : Expr} {t t' : TE} (h : PE X e t) (k : ∀ σ H Q, t' σ H Q → t σ H Q) : PE X e t' := ⟨fun pins s σ H Q I q => h.run pins s σ H Q I (k _ _ _ q)⟩
theorem PT.weak {e : Expr} {t t' : TT} (h : PT X e t) (k : ∀ σ H Q, t' σ H Q → t σ H Q) : PT X e t' := ⟨fun pins s σ H Q I q => h.run pins s σ H Q I (k _ _ _ q)⟩
theorem PG.weak {e : Expr} {t t' : TG} (h : PG X e t) (k : ∀ v σ H Q, t' v σ H Q → t v σ H Q) : PG X e t' := ⟨fun pins s σ H v u Q I r q => h.run pins s σ H v u Q I r (k _ _ _ _ q)⟩
theorem DenG.can {α β : Type} {Rl : Hp → List Addr → α → β → Prop} {W : WX} {t : L2.St → Hp → (β → Hp → Prop) → Prop} {f : Env → Sto → Res α} (d : DenG T Rl W t f) {σ : L2.St} {H : Hp} {Q : β → Hp → Prop} (h : canE T Rl W f σ H Q) : t σ H Q := by
  obtain ⟨P, ι, F, δ, s, R, E, post⟩ := h
  exact d _ _ _ _ _ _ _ _ R E post
theorem DenT.can {ws : List Nat} {t : TG} {f : DTg} (d : DenT T ws t f) {v : V} {σ : L2.St} {H : Hp} {Q : L2.St → Hp → Prop} (h : canT T ws f v σ H Q) : t v σ H Q := by
  obtain ⟨P, ι, F, δ, δ', s, x, R, E, r, e, k⟩ := h
  exact d _ _ _ _ _ _ _ _ _ _ _ R E r e k
/-! ## list comprehensions -/
/-- a clause's tests -/
def PDts (T : Tb) (X : Cx) (ifs : List Expr) (f : DT) : Prop := ∃ t, PTs X ifs t ∧ DenG T eqR (fun _ _ _ _ => False) t f
def cYes : DT := fun _ s => .ok true s
def W0 : WX := fun _ _ _ _ => False
theorem ts_nil : PDts T X [] cYes := ⟨_, pts_nil, fun _ _ _ _ _ _ _ _ R _ post => post.here R rfl⟩
theorem ts_one {c : Expr} {f : DT} (h : PDt T X c f) : PDts T X [c] f := by
  obtain ⟨t, p, d⟩ := h X.pn X.xe (fun _ _ _ _ => False) takes0
  exact ⟨t, pts_one p, d⟩
theorem PTs.weak {e : List Expr} {t t' : TT} (h : PTs X e t) (k : ∀ σ H Q, t' σ H Q → t σ H Q) : PTs X e t' := ⟨fun pins s σ H Q I q => h.run pins s σ H Q I (k _ _ _ q)⟩
def wipeE (δ : Env) : List Nat → Env
  | [] => δ
  | v :: vs => (wipeE δ vs).set v none
theorem REnv.wipe {F : Hp} {ι : List Addr} {δ : Env} {σ : L2.St} (E : REnv T F ι δ σ) : ∀ vs : List Nat, REnv T F ι (wipeE δ vs) (L2.wipe σ vs)
  | [] => E
  | v :: vs => (E.wipe vs).unset v
def lcL (t : DTg) (c : DT) (e : DE) (δ : Env) : List D → List D → Sto → Res D
  | [], acc, s => .ok (.lst acc) s
  | d :: r, acc, s => match t d δ with
    | none => .stuck
    | some δ1 => match c δ1 s with
      | .ok true s2 => match e δ1 s2 with
        | .ok y s3 => if acc.length < lim then lcL t c e δ r (acc ++ [y]) s3 else .stuck
        | _ => .stuck
      | .ok false s2 => lcL t c e δ r acc s2
      | _ => .stuck
def dLc (it : DIt) (t : DTg) (c : DT) (e : DE) (vs : List Nat) : DE := fun δ s => (it δ s).bind fun ds s1 => lcL t c e (wipeE δ vs) ds [] s1
abbrev Blk (X : Cx) (scope : Scope) (s : Shared) (H : Hp) (C : Addr) (cl : List (Str × Addr)) (fp : List Addr) : Cx := X.blk s H scope (compEnvC scope cl C X.env) fp
theorem den_lc {W : WX} {wi : TI} {it : DIt} {ws vs : List Nat} {t : DTg} {c : DT} {e : DE} (hi : DenI T W wi it) (hs : ∀ i ∈ ws, i ∈ vs) :
    DenG T (Rp T) W (tLc wi (canT T ws t) (canE T eqR W0 c) (canE T (Rp T) W0 e) vs) (dLc it t c e vs) := fun σ H P ι F δ s Q R E post => by
  show wi σ H _
  refine den_then hi R E post fun ds J H1 ι1 F1 s1 g1 R1 E1 w post1 => fun L hL => ?_
  have hPL : P L = none := R1.freeP hL
  refine lc_it w (fun i H' => ∃ ι' F' s' acc vacc, Grow F1 ι1 F' ι' ∧ RelH T (upd P L (.lst vacc)) ι' F' s' H' ∧ Rps T F' ι' acc vacc ∧
      Post T P (Rp T) Q (fun c H' => W (.ref (T.ca c)) none σ H') F' ι' (lcL t c e (wipeE δ vs) (ds.drop i) acc s'))
    ⟨ι1, F1, s1, [], [], Grow.refl _ _, R1.newP hL _, .nil, by simpa using post1⟩ ?_ ?_ ?_
  · rintro i H' _ ⟨ι', F', s', acc, vacc, g', R', _, _⟩
    exact fun a o h => R'.sub _ _ (g'.1 _ _ h)
  · rintro i x H' H2 hi' ⟨ι', F', s', acc, vacc, g', R', ra, post'⟩ ⟨d, hd, y⟩
    obtain ⟨F2, g2, R2, r2⟩ := item_ok g' R' y
    rw [drop_get hd] at post'
    unfold lcL at post'
    have Ew : REnv T F2 ι' (wipeE δ vs) (L2.wipe σ vs) := ((E1.mono g').mono g2).wipe vs
    cases q : t d (wipeE δ vs) with
    | none => rw [q] at post'; exact post'.elim
    | some δ1 =>
      rw [q] at post'
      dsimp only at post'
      refine ⟨_, ι', F2, _, δ1, s', d, R2, Ew, r2, q, fun σ2 E2 o2 => ⟨o2.wipe hs |>.trans ?_, ?_⟩⟩
      · refine List.ext_getElem? fun j => ?_
        rw [wipe_at, wipe_at, wipe_length]
        by_cases c : j ∈ vs ∧ j < σ.length
        · rw [if_pos c, if_pos c]
        · rw [if_neg c, if_neg c]
      · refine ⟨_, ι', F2, δ1, s', R2, E2, ?_⟩
        cases qc : c δ1 s' with
        | stuck => rw [qc] at post'; exact post'.elim
        | exc k s2 => rw [qc] at post'; exact post'.elim
        | ok b s2 =>
          rw [qc] at post'
          intro b' H3 ι3 F3 g3 R3 eb
          cases eb
          cases b with
          | false =>
            rw [if_neg Bool.false_ne_true]
            exact ⟨ι3, F3, s2, acc, vacc, (g'.trans g2).trans g3, R3, ra.mono (g2.trans g3), post'.mono (g2.trans g3)⟩
          | true =>
            rw [if_pos rfl]
            refine ⟨_, ι3, F3, δ1, s2, R3, E2.mono g3, ?_⟩
            dsimp only at post'
            cases qe : e δ1 s2 with
            | stuck => rw [qe] at post'; exact post'.elim
            | exc k s3 => rw [qe] at post'; exact post'.elim
            | ok z s3 =>
              rw [qe] at post'
              intro v H4 ι4 F4 g4 R4 rv
              dsimp only at post'
              have ra' := ra.mono ((g2.trans g3).trans g4)
              split at post'
              · rename_i hl
                refine ⟨vacc, R4.pro _ _ upd_same, by rw [← ra.len]; exact lim_lt (Nat.le_of_lt hl), ι4, F4, s3, acc ++ [z], vacc ++ [v], ((g'.trans g2).trans g3).trans g4, ?_, ra'.app (.cons rv .nil), post'.mono ((g2.trans g3).trans g4)⟩
                have := R4.setP (p := L) upd_same (.lst (vacc ++ [v]))
                rw [upd_upd] at this
                exact this
              · exact post'.elim
  · rintro H' ⟨ι', F', s', acc, vacc, g', R', ra, post'⟩
    rw [List.drop_length] at post'
    have R2 := R'.thaw hPL
    have gr : Grow F' ι' (upd F' L (.lst vacc)) ι' := grow_new (R'.dis L _ upd_same) _
    refine post' (.ref L) H' ι' _ gr R2 ?_
    unfold Rp
    exact ⟨L, vacc, rfl, upd_same, ra.mono gr⟩
theorem d_lc {elt tg iter : Expr} {ifs : List Expr} {scope : Scope} {own : List (Str × Nat)} {pos : Pos} {it : DIt} {ws : List Nat} {t : DTg} {c : DT} {e : DE} (hN : X.N.Nodup) (hi : PDi T X tg iter it) (ok : BlkOk X.N X.env.scope scope own)
    (hg : ∀ (s : Shared) (H : Hp) (C : Addr) (cl : List (Str × Addr)) (fp : List Addr), PDg T (Blk X scope s H C cl fp) tg ws t) (ht : ∀ (s : Shared) (H : Hp) (C : Addr) (cl : List (Str × Addr)) (fp : List Addr), PDts T (Blk X scope s H C cl fp) ifs c)
    (he : ∀ (s : Shared) (H : Hp) (C : Addr) (cl : List (Str × Addr)) (fp : List Addr), PDe T (Blk X scope s H C cl fp) elt e) (hs : ∀ i ∈ ws, i ∈ own.map (·.2) := by decide) (hf : ∀ x, foldedSetIterable iter X.env x = pure x := by intro _; rfl) (hc : X.calm = true := by rfl) :
    PDe T X (.ListComp elt [⟨tg, iter, ifs, 0⟩] scope pos) (dLc it t c e (own.map (·.2))) := fun pn xe W tk => by
  obtain ⟨wi, p1, d1⟩ := hi pn xe W tk
  refine ⟨_, pe_lc (X := X.tr pn xe) (own := own) hc hN p1 ok (g := canT T ws t) (tt := canE T eqR W0 c) (te := canE T (Rp T) W0 e) (fun s H C cl fp => ?_) (fun s H C cl fp => ?_) (fun s H C cl fp => ?_) hf, den_lc d1 hs⟩
  · obtain ⟨g, p, d⟩ := hg s H C cl fp [] (fun _ _ => False)
    exact PG.weak p fun v σ H Q q => d.can q
  · obtain ⟨g, p, d⟩ := ht s H C cl fp
    exact PTs.weak p fun σ H Q q => d.can q
  · obtain ⟨g, p, d⟩ := he s H C cl fp [] (fun _ _ => False) W0 takes0
    exact PE.weak p fun σ H Q q => d.can q
theorem s_setLc {elt tg iter : Expr} {ifs : List Expr} {scope : Scope} {own : List (Str × Nat)} {pos spos py : Pos} {y : Str} {it : DIt} {ws : List Nat} {t : DTg} {c : DT} {e : DE} (i : Nat) (hN : X.N.Nodup) (hi : PDi T X tg iter it) (ok : BlkOk X.N X.env.scope scope own)
    (hg : ∀ (s : Shared) (H : Hp) (C : Addr) (cl : List (Str × Addr)) (fp : List Addr), PDg T (Blk X scope s H C cl fp) tg ws t) (ht : ∀ (s : Shared) (H : Hp) (C : Addr) (cl : List (Str × Addr)) (fp : List Addr), PDts T (Blk X scope s H C cl fp) ifs c)
    (he : ∀ (s : Shared) (H : Hp) (C : Addr) (cl : List (Str × Addr)) (fp : List Addr), PDe T (Blk X scope s H C cl fp) elt e) (hsw : swapsWith (.ListComp elt [⟨tg, iter, ifs, 0⟩] scope pos) (some (.Name y py)) spos.line X.env = pure true)
    (hy : X.N[i]? = some y := by rfl) (hyl : X.env.scope.names.lookup y = some .local := by rfl) (hs : ∀ i ∈ ws, i ∈ own.map (·.2) := by decide) (hf : ∀ x, foldedSetIterable iter X.env x = pure x := by intro _; rfl) (hc : X.calm = true := by rfl) :
    PDs T X (.Assign [.Name y py] (.ListComp elt [⟨tg, iter, ifs, 0⟩] scope pos) spos) (sSet i (dLc it t c e (own.map (·.2)))) := fun pn xe W tk _ => by
  obtain ⟨wi, p1, d1⟩ := hi pn xe W tk
  refine ⟨_, ps_setLc (X := X.tr pn xe) (i := i) (own := own) hc hN hy hyl hsw p1 ok (g := canT T ws t) (tt := canE T eqR W0 c) (te := canE T (Rp T) W0 e) (fun s H C cl fp => ?_) (fun s H C cl fp => ?_) (fun s H C cl fp => ?_) hf, fun En σ H P ι F δ s R E post => ?_⟩
  · obtain ⟨g, p, d⟩ := hg s H C cl fp [] (fun _ _ => False)
    exact PG.weak p fun v σ H Q q => d.can q
  · obtain ⟨g, p, d⟩ := ht s H C cl fp
    exact PTs.weak p fun σ H Q q => d.can q
  · obtain ⟨g, p, d⟩ := he s H C cl fp [] (fun _ _ => False) W0 takes0
    exact PE.weak p fun σ H Q q => d.can q
  · have dl : DenG T (Rp T) W _ _ := den_lc (T := T) (c := c) (e := e) (t := t) d1 hs
    show tLc wi (canT T ws t) (canE T eqR W0 c) (canE T (Rp T) W0 e) (own.map (·.2)) σ H _
    refine dens_then (t := tLc wi (canT T ws t) (canE T eqR W0 c) (canE T (Rp T) W0 e) (own.map (·.2))) dl R E post fun x v H1 ι1 F1 s1 g R1 E1 r1 post1 => ?_
    exact post1 _ H1 ι1 F1 (Grow.refl _ _) R1 (E1.set r1 i)
end

/-! ## functions -/
mutual
def below (n : Nat) : D → Bool
  | .loc m => decide (m < n)
  | .tup xs => belows n xs
  | .lst xs => belows n xs
  | .dct _ xs => belows n xs
  | .obj _ _ xs => belows n xs
  | _ => true
def belows (n : Nat) : List D → Bool
  | [] => true
  | x :: xs => below n x && belows n xs
end
def Cell.below (n : Nat) : Cell → Bool
  | .dead => true
  | .lst xs => belows n xs
  | .dct _ xs => belows n xs
  | .obj _ _ xs => belows n xs
/-- what a call leaves: its own cells go -/
def cut (n : Nat) (d : D) (s : Sto) : Res D := if s.length = n then .ok d s else if (decide (n ≤ s.length) && (below n d && (s.take n).all (Cell.below n))) = true then .ok d (s.take n) else .ok d s
def cutX (n : Nat) (c : Nat) (s : Sto) : Res D := if s.length = n then .exc c s else if (decide (n ≤ s.length) && (s.take n).all (Cell.below n)) = true then .exc c (s.take n) else .stuck
section
variable {T : Tb}
mutual
theorem Rp.take {F : Hp} {ι : List Addr} {n : Nat} : ∀ {d : D} {v : V}, Rp T F ι d v → below n d = true → Rp T F (ι.take n) d v
  | .non, _, h, _ => by unfold Rp at h ⊢; exact h
  | .bl _, _, h, _ => by unfold Rp at h ⊢; exact h
  | .int _, _, h, _ => by unfold Rp at h ⊢; exact h
  | .str _, _, h, _ => by unfold Rp at h ⊢; exact h
  | .tup xs, v, h, b => by
    unfold Rp at h ⊢
    obtain ⟨a, vs, e, q, r⟩ := h
    exact ⟨a, vs, e, q, Rps.takeI r b⟩
  | .lst xs, v, h, b => by
    unfold Rp at h ⊢
    obtain ⟨a, vs, e, q, r⟩ := h
    exact ⟨a, vs, e, q, Rps.takeI r b⟩
  | .scr ns, v, h, _ => by unfold Rp at h ⊢; exact h
  | .dct ks xs, v, h, b => by
    unfold Rp at h ⊢
    obtain ⟨a, kvs, e, q, k, r⟩ := h
    exact ⟨a, kvs, e, q, k, Rps.takeI r b⟩
  | .obj c ns xs, v, h, b => by
    unfold Rp at h ⊢
    obtain ⟨a, dx, fs, e, q, k, r⟩ := h
    exact ⟨a, dx, fs, e, q, k, Rps.takeI r b⟩
  | .loc m, v, h, b => by
    unfold Rp at h ⊢
    obtain ⟨a, q, e⟩ := h
    have hm : m < n := of_decide_eq_true b
    exact ⟨a, by rw [List.getElem?_take_of_lt hm]; exact q, e⟩
  | .exc c, v, h, _ => by unfold Rp at h ⊢; exact h
  | .cls _, _, h, _ => by unfold Rp at h ⊢; exact h
  | .ty _, _, h, _ => by unfold Rp at h ⊢; exact h
theorem Rps.takeI {F : Hp} {ι : List Addr} {n : Nat} : ∀ {ds : List D} {vs : List V}, Rps T F ι ds vs → belows n ds = true → Rps T F (ι.take n) ds vs
  | [], _, h, _ => by unfold Rps at h ⊢; exact h
  | x :: xs, vs, h, b => by
    unfold Rps at h ⊢
    obtain ⟨v, r, e, p, q⟩ := h
    have b' : (below n x && belows n xs) = true := b
    rw [Bool.and_eq_true] at b'
    exact ⟨v, r, e, Rp.take p b'.1, Rps.takeI q b'.2⟩
end
theorem RelH.cut {P : Hp} {ι : List Addr} {F : Hp} {s : Sto} {H : Hp} {n : Nat} (R : RelH T P ι F s H) (hb : (s.take n).all (Cell.below n) = true) : RelH T P (ι.take n) F (s.take n) H := by
  have lt : ∀ {m : Nat} {c : Cell}, (s.take n)[m]? = some c → m < n ∧ s[m]? = some c := fun {m c} h => by
    have h1 := (List.getElem?_eq_some_iff.mp h).1
    rw [List.length_take] at h1
    have h2 : m < n := by omega
    exact ⟨h2, by rw [List.getElem?_take_of_lt h2] at h; exact h⟩
  have ltI : ∀ {m : Nat} {a : Addr}, (ι.take n)[m]? = some a → ι[m]? = some a := fun {m a} h => by
    have h1 := (List.getElem?_eq_some_iff.mp h).1
    rw [List.length_take] at h1
    rw [List.getElem?_take_of_lt (by omega)] at h
    exact h
  refine ⟨R.sub, R.pro, R.dis, by rw [List.length_take, List.length_take, R.len], fun m c a h1 h2 => ?_, fun m c a h1 l h2 => R.npr m c a (lt h1).2 l (ltI h2), fun m k c c' a h1 h2 l1 l2 h3 h4 => R.nod m k c c' a (lt h1).2 (lt h2).2 l1 l2 (ltI h3) (ltI h4)⟩
  have hc := R.cell m c a (lt h1).2 (ltI h2)
  have hbc : c.below n = true := List.all_eq_true.mp hb c (List.mem_of_getElem? h1)
  cases c with
  | dead => trivial
  | lst xs =>
    obtain ⟨e1, vs, e2, e3⟩ := hc
    exact ⟨e1, vs, e2, e3.takeI hbc⟩
  | dct ks xs =>
    obtain ⟨e1, vs, e2, e3, e4⟩ := hc
    exact ⟨e1, vs, e2, e3, e4.takeI hbc⟩
  | obj k ns xs =>
    obtain ⟨e1, dx, vs, e2, e3, e4⟩ := hc
    exact ⟨e1, dx, vs, e2, e3, e4.takeI hbc⟩
/-- the promise of a def that does what φ tells -/
def spD (T : Tb) (n : Nat) (φ : List D → Sto → Res D) : Sp := fun vs H Q E => vs.length = n ∧ ∃ P ι F s ds, RelH T P ι F s H ∧ Rps T F ι ds vs ∧ Post T P (Rp T) Q (fun c H' => E (.ref (T.ca c)) none H') F ι (φ ds s)
def finO (n : Nat) : Out → Res D
  | .rt d s => cut n d s
  | .nx _ s => cut n .non s
  | .ex c _ s => cutX n c s
  | _ => .stuck
/-- a def: N names, n of them parameters -/
def mkF (N n : Nat) (g : DS) : List D → Sto → Res D := fun ds s => if ds.length = n then finO s.length (g (ds.map some ++ List.replicate (N - n) none) s) else .stuck
theorem takeG {F F' : Hp} {ι ι' : List Addr} {n : Nat} (g : Grow F ι F' ι') (h : ι.length = n) : Grow F ι F' (ι'.take n) := by
  obtain ⟨g1, m, rfl⟩ := g
  refine ⟨g1, [], ?_⟩
  rw [List.append_nil, List.take_append_of_le_length (by omega), List.take_of_length_le (by omega)]
theorem fin_ok {P : Hp} {ι : List Addr} {F : Hp} {s : Sto} {H : Hp} {Q : VK} {E : XK} {W : WX} {o : Out} (hW : ∀ c d σ H, E c d H → W c d σ H) (R : RelH T P ι F s H) (post : Post T P (Rp T) Q (fun c H' => E (.ref (T.ca c)) none H') F ι (finO s.length o)) :
    PostS T P { nx := fun _ H' => Q .non H', rt := Q } W F ι o := by
  have one : ∀ d s', Post T P (Rp T) Q (fun c H' => E (.ref (T.ca c)) none H') F ι (cut s.length d s') → ∀ v H' ι' F', Grow F ι F' ι' → RelH T P ι' F' s' H' → Rp T F' ι' d v → Q v H' := by
    intro d s' p v H' ι' F' g R' r
    unfold Mp.cut at p
    split at p
    · exact p v H' ι' F' g R' r
    · split at p
      · rename_i hb
        simp only [Bool.and_eq_true, decide_eq_true_eq] at hb
        exact p v H' _ F' (takeG g R.len) (R'.cut hb.2.2) (r.take hb.2.1)
      · exact p v H' ι' F' g R' r
  cases o with
  | rt d s' => exact one d s' post
  | nx δ s' => exact fun σ' H' ι' F' g R' _ => one .non s' post .non H' ι' F' g R' (by unfold Rp; rfl)
  | bk δ s' => exact post.elim
  | ct δ s' => exact post.elim
  | stuck => exact post.elim
  | ex c δ s' =>
    intro σ' H' ι' F' g R' _
    refine hW _ _ _ _ ?_
    have post' : Post T P (Rp T) Q (fun c H' => E (.ref (T.ca c)) none H') F ι (cutX s.length c s') := post
    unfold cutX at post'
    split at post'
    · exact post' H' ι' F' g R'
    · split at post'
      · rename_i hb
        simp only [Bool.and_eq_true, decide_eq_true_eq] at hb
        exact post' H' _ F' (takeG g R.len) (R'.cut hb.2)
      · exact post'.elim
theorem start_env {F : Hp} {ι : List Addr} {N : List Str} {ds : List D} {vs : List V} {n : Nat} (r : Rps T F ι ds vs) (hn : ds.length = n) : REnv T F ι (ds.map some ++ List.replicate (N.length - n) none) (L2.start N vs) := by
  have hl := r.len
  unfold L2.start
  refine ⟨by simp [hl]; omega, fun i d h => ?_⟩
  by_cases hi : i < ds.length
  · rw [List.getElem?_append_left (by simpa using hi), List.getElem?_map] at h
    cases e : ds[i]? with
    | none => rw [e] at h; cases h
    | some d' =>
      rw [e] at h
      cases h
      obtain ⟨v, h1, h2⟩ := r.get e
      refine ⟨v, ?_, h2⟩
      rw [List.getElem?_append_left (by simp; omega), List.getElem?_map, h1]
      rfl
  · rw [List.getElem?_append_right (by simpa using hi), List.getElem?_replicate] at h
    split at h <;> cases h
section
variable {P : Program} {w : World} {mg : Str → Option Value} {base : Heap}
theorem fn_d {x qual : Str} {params : Arguments} {body : List Stmt} {scope : Scope} {dvs : List V} {kws : List (Str × V)} {f : Addr} {fd : FuncData} {N ps : List Str} {k : Nat} {g : DS} (F : FunD T.K x qual params body scope dvs kws f fd) (Sc : FnScope N ps scope)
    (h : ∀ (cdv : Value) (A : Around) (outer : List PySem.Env) (s : Shared) (H : Hp) (E : XK), Room k (A.deeper (PyProof.Rows.envOfC qual scope s.heap.objs.size f cdv)) → PDb T (cxOf (L2.CX P w) P w T.K mg base N qual scope f cdv A outer s H E) body g) :
    FnOk P w T.K mg base (L2.CX P w) (k + 1) f fd ps (spD T ps.length (mkF N.length ps.length g)) := by
  refine F.ok Sc (fun vs H Q E h => h.1) fun cdv A outer s H vs Q E hr sp => ?_
  obtain ⟨hl, P0, ι, F0, st, ds, R, r, post⟩ := sp
  have tk : Takes (cxOf (L2.CX P w) P w T.K mg base N qual scope f cdv A outer s H E) (fun cls d _ H => E cls d H) := takes_of rfl rfl rfl rfl
  obtain ⟨t, p, d⟩ := h cdv A outer s H E hr _ _ _ tk (passes_of rfl)
  refine ⟨t, p, ?_⟩
  unfold mkF at post
  split at post
  · rename_i hd
    exact d _ _ _ _ _ _ _ _ R (start_env r hd) (fin_ok (fun _ _ _ _ h => h) R post)
  · exact post.elim
/-- a def that may be called by its name -/
structure Cl (T : Tb) (P : Program) (w : World) (mg : Str → Option Value) (base : Heap) (x : Str) (k n : Nat) (φ : List D → Sto → Res D) : Prop where
  ex : ∃ (f : Addr) (fd : FuncData) (ps : List Str), mg x = some (.ref f) ∧ PySem.W.keepIn T.K (.ref f) = true ∧ Binds T.K fd ps [] ∧ FnOk P w T.K mg base (L2.CX P w) k f fd ps (spD T n φ)
theorem Cl.up {x : Str} {j k n : Nat} {φ : List D → Sto → Res D} (c : Cl T P w mg base x j n φ) (h : j ≤ k) : Cl T P w mg base x k n φ := by
  obtain ⟨f, fd, ps, h1, h2, h3, h4⟩ := c.ex
  exact ⟨f, fd, ps, h1, h2, h3, h4.mono h⟩
end
variable {X : Cx}
def dCall (φ : List D → Sto → Res D) (fa : DA) : DE := fun δ s => (fa δ s).bind fun ds s1 => φ ds s1
theorem d_call {x : Str} {p pos : Pos} {e : Expr} {es : List Expr} {k j n : Nat} {φ : List D → Sto → Res D} {fa : DA} (c : Cl T X.prog X.w X.mg X.base x k n φ) (ha : PDa T X (e :: es) fa) (hr : Room j X.A) (hk : k ≤ j := by decide) (hn : (e :: es).length = n := by rfl) (hg : Gl X x := by rfl) (hK : X.K = T.K := by rfl)
    (hdb : (x == ("__debug__" : Str)) = false := by decide) (he : starEach (e :: es) X.env = (false, eval e X.env) :: starEach es X.env := by rfl) (hpl : (backTo pos (starEach es X.env)).any (·.1) = false := by rfl) :
    PDe T X (.Call (.Name x p) (e :: es) [] pos) (dCall φ fa) := fun pn xe W tk => by
  obtain ⟨t1, p1, d1⟩ := ha pn xe W tk
  obtain ⟨f, fd, ps, h1, h2, h3, h4⟩ := c.ex
  rw [← hK] at h2 h3 h4
  refine ⟨_, pe_callS (X := X.tr pn xe) h4 (hr.mono hk) hg h1 h2 h3 (fun σ => passAt tk σ) p1 hdb he hpl, fun σ H P ι F δ s Q R E post => ?_⟩
  show t1 σ H _
  refine den_then d1 R E post fun ds vs H1 ι1 F1 s1 g R1 E1 r1 post1 => ?_
  exact ⟨r1.2.trans hn, P, ι1, F1, s1, ds, R1, r1.1, post1⟩
end
end Mp
/-! # MpF -/
namespace Mp
open PySem PySem.Spec L2
/-! ## built-ins called by name -/
abbrev DB := List D → Sto → Res D
def dBi (op : DB) (fa : DA) : DE := fun δ s => (fa δ s).bind fun ds s1 => op ds s1
def DenB (T : Tb) (r : List V → Hp → VK → Prop) (op : DB) : Prop := ∀ ds vs H P ι F s Q E, RelH T P ι F s H → Rps T F ι ds vs → Post T P (Rp T) Q E F ι (op ds s) → r vs H Q
section
variable {T : Tb} {X : Cx}
theorem den_bi {W : WX} {r : List V → Hp → VK → Prop} {op : DB} {n : Nat} {t : TA} {fa : DA} (hb : DenB T r op) (d : DenG T (RpsN T n) W t fa) : DenG T (Rp T) W (tCB r t) (dBi op fa) := fun σ H P ι F δ s Q R E post => by
  show t σ H _
  refine den_then d R E post fun ds vs H1 ι1 F1 s1 g R1 E1 r1 post1 => ?_
  exact hb _ _ _ _ _ _ _ _ _ R1 r1.1 post1
theorem d_callB {x : Str} {p pos : Pos} {e : Expr} {es : List Expr} {id : String} {r : List V → Hp → VK → Prop} {op : DB} {fa : DA} (hc : ∀ pn xe, CallR (X.tr pn xe) (.builtin id) r) (hb : DenB T r op) (hm : X.mg x = none) (hv : bootBuiltins x = some (.builtin id)) (ha : PDa T X (e :: es) fa)
    (hg : Gl X x := by rfl) (hn : x ≠ "__name__" := by decide) (hdb : (x == ("__debug__" : Str)) = false := by decide)
    (he : starEach (e :: es) X.env = (false, eval e X.env) :: starEach es X.env := by rfl) (hpl : (backTo pos (starEach es X.env)).any (·.1) = false := by rfl) : PDe T X (.Call (.Name x p) (e :: es) [] pos) (dBi op fa) := fun pn xe W tk => by
  obtain ⟨t1, p1, d1⟩ := ha pn xe W tk
  exact ⟨_, pe_callB (X := X.tr pn xe) (hc pn xe) hg hm hv p1 hn hdb he hpl, den_bi hb d1⟩
theorem d_callT {x : Str} {p pos : Pos} {e : Expr} {es : List Expr} {id : String} {r : List V → Hp → VK → Prop} {op : DB} {fa : DA} (hc : ∀ pn xe, CallR (X.tr pn xe) (.type id) r) (hb : DenB T r op) (hm : X.mg x = none) (hv : bootBuiltins x = some (.type id)) (ha : PDa T X (e :: es) fa)
    (hg : Gl X x := by rfl) (hn : x ≠ "__name__" := by decide) (hdb : (x == ("__debug__" : Str)) = false := by decide)
    (he : starEach (e :: es) X.env = (false, eval e X.env) :: starEach es X.env := by rfl) (hpl : (backTo pos (starEach es X.env)).any (·.1) = false := by rfl) : PDe T X (.Call (.Name x p) (e :: es) [] pos) (dBi op fa) := fun pn xe W tk => by
  obtain ⟨t1, p1, d1⟩ := ha pn xe W tk
  exact ⟨_, pe_callTy (X := X.tr pn xe) (hc pn xe) hg hm hv p1 hn hdb he hpl, den_bi hb d1⟩
/-! ### len -/
def bLen : DB
  | [.str z], s => if z.length ≤ lim then .ok (.int z.length) s else .stuck
  | [x], s => match (lqOf s x).or (tpOf x) with
    | some xs => .ok (.int xs.length) s
    | none => .stuck
  | _, _ => .stuck
def rLen (K : PySem.W.Frag) : List V → Hp → VK → Prop := fun xs H Q => ∃ x n, xs = [x] ∧ LenV K x H n ∧ Q (.int n) H
theorem db_len : DenB T (rLen T.K) bLen := by
  intro ds vs H P ι F s Q E R r post
  unfold bLen at post
  split at post
  · obtain ⟨v, rfl, h1⟩ := rps1 r
    unfold Rp at h1
    subst h1
    split at post
    · rename_i hl
      refine ⟨_, _, rfl, ⟨by rw [S_len]; exact lim_le hl, rfl⟩, ?_⟩
      rw [S_len]
      exact post.here R (by unfold Rp; rfl)
    · exact post.elim
  · obtain ⟨v, rfl, h1⟩ := rps1 r
    split at post
    · rename_i xs h
      obtain ⟨a, us, rfl, h2, h3⟩ := lqtp_of R h1 h
      refine ⟨_, us.length, rfl, ?_, ?_⟩
      · rcases h2 with h2 | h2
        · exact .inl ⟨us, h2, rfl⟩
        · exact .inr ⟨us, h2, rfl⟩
      · rw [← h3.len]
        exact post.here R (by unfold Rp; rfl)
    · exact post.elim
  · exact post.elim
/-! ### any, all of truth values -/
def boolsOf : List D → Option (List Bool)
  | [] => some []
  | .bl b :: r => (boolsOf r).map (b :: ·)
  | _ => none
theorem bools_ok {F : Hp} {ι : List Addr} : ∀ {ds : List D} {vs : List V} {bs : List Bool}, Rps T F ι ds vs → boolsOf ds = some bs → vs = bs.map V.bl
  | [], vs, bs, r, e => by unfold Rps at r; subst r; cases e; rfl
  | d :: ds, vs, bs, r, e => by
    unfold Rps at r
    obtain ⟨v, us, rfl, h1, h2⟩ := r
    cases d with
    | bl b =>
      have e' : (boolsOf ds).map (b :: ·) = some bs := e
      cases q : boolsOf ds with
      | none => rw [q] at e'; cases e'
      | some cs =>
        rw [q] at e'
        cases e'
        unfold Rp at h1
        rw [h1, bools_ok h2 q]
        rfl
    | _ => cases e
def bAnyAll (f : List Bool → Bool) : DB
  | [x], s => match lqOf s x with
    | some xs => match boolsOf xs with
      | some bs => .ok (.bl (f bs)) s
      | none => .stuck
    | none => .stuck
  | _, _ => .stuck
abbrev bAny : DB := bAnyAll (·.any id)
abbrev bAll : DB := bAnyAll (·.all id)
theorem db_any : DenB T (rAny T.K) bAny := by
  intro ds vs H P ι F s Q E R r post
  unfold bAny bAnyAll at post
  split at post
  · obtain ⟨v, rfl, h1⟩ := rps1 r
    split at post
    · rename_i xs h
      split at post
      · rename_i bs hb
        obtain ⟨a, us, rfl, h2, h3⟩ := lq_of R h1 h
        rw [bools_ok h3 hb] at h2
        exact ⟨a, bs, rfl, h2, post.here R (by unfold Rp; rfl)⟩
      · exact post.elim
    · exact post.elim
  · exact post.elim
theorem db_all : DenB T (rAll T.K) bAll := by
  intro ds vs H P ι F s Q E R r post
  unfold bAll bAnyAll at post
  split at post
  · obtain ⟨v, rfl, h1⟩ := rps1 r
    split at post
    · rename_i xs h
      split at post
      · rename_i bs hb
        obtain ⟨a, us, rfl, h2, h3⟩ := lq_of R h1 h
        rw [bools_ok h3 hb] at h2
        exact ⟨a, bs, rfl, h2, post.here R (by unfold Rp; rfl)⟩
      · exact post.elim
    · exact post.elim
  · exact post.elim
/-! ### max, min of two -/
def b2I (g : Int → Int → Int) : DB
  | [.int a, .int b], s => .ok (.int (g a b)) s
  | _, _ => .stuck
abbrev bMax2 : DB := b2I fun i j => if j > i then j else i
abbrev bMin2 : DB := b2I fun i j => if j < i then j else i
theorem db_2I {g : Int → Int → Int} : DenB T (fun xs H Q => ∃ i j, xs = [.int i, .int j] ∧ Q (.int (g i j)) H) (b2I g) := by
  intro ds vs H P ι F s Q E R r post
  unfold b2I at post
  split at post
  · obtain ⟨v, u, rfl, h1, h2⟩ := rps2 r
    unfold Rp at h1 h2
    exact ⟨_, _, by rw [h1, h2], post.here R (by unfold Rp; rfl)⟩
  · exact post.elim
/-! ### isinstance -/
def tyOf (s : Sto) : D → Option String
  | .non => some "NoneType"
  | .bl _ => some "bool"
  | .int _ => some "int"
  | .str _ => some "str"
  | .lst _ => some "list"
  | .tup _ => some "tuple"
  | .loc n => match s[n]? with
    | some (.lst _) => some "list"
    | some (.dct _ _) => some "dict"
    | _ => none
  | .dct _ _ => some "dict"
  | _ => none
theorem ty_ok {P : Hp} {ι : List Addr} {F : Hp} {s : Sto} {H : Hp} (R : RelH T P ι F s H) {d : D} {v : V} {t : String} (r : Rp T F ι d v) (h : tyOf s d = some t) : TyX T.K H v (.type t) := by
  cases d with
  | non => unfold Rp at r; subst r; cases h; exact .base .non
  | bl b => unfold Rp at r; subst r; cases h; exact .base (.bl b)
  | int b => unfold Rp at r; subst r; cases h; exact .base (.int b)
  | str b => unfold Rp at r; subst r; cases h; exact .base (.str _)
  | lst xs => unfold Rp at r; obtain ⟨a, vs, rfl, e, _⟩ := r; cases h; exact .base (.lst (R.sub _ _ e))
  | tup xs => unfold Rp at r; obtain ⟨a, vs, rfl, e, _⟩ := r; cases h; exact .base (.tup (R.sub _ _ e))
  | dct ks xs =>
    unfold Rp at r
    obtain ⟨a, kvs, rfl, e, _⟩ := r
    cases h
    rcases e with e | ⟨o, e⟩
    · exact .base (.dK (R.sub _ _ e))
    · exact .fDict (R.sub _ _ e)
  | loc n =>
    unfold Rp at r
    obtain ⟨a, e1, rfl⟩ := r
    unfold tyOf at h
    dsimp only at h
    cases q : s[n]? with
    | none => rw [q] at h; cases h
    | some c =>
      rw [q] at h
      cases c with
      | lst xs => cases h; obtain ⟨_, vs, e, _⟩ := R.cell n _ a q e1; exact .base (.lst e)
      | dct ks xs => cases h; obtain ⟨_, vs, e, _⟩ := R.cell n _ a q e1; exact .base (.dK e)
      | _ => cases h
  | _ => cases h
def bIsi : DB
  | [x, .ty n], s => match tyOf s x with
    | some t => match kitB t n with
      | some b => .ok (.bl b) s
      | none => .stuck
    | none => .stuck
  | _, _ => .stuck
theorem db_isi : DenB T (rIsi T.K) bIsi := by
  intro ds vs H P ι F s Q E R r post
  unfold bIsi at post
  split at post
  · obtain ⟨v, u, rfl, h1, h2⟩ := rps2 r
    split at post
    · rename_i t ht
      split at post
      · rename_i b hb
        unfold Rp at h2
        subst h2
        exact ⟨v, _, _, _, b, rfl, .ty _, ty_ok R h1 ht, kit_ty hb, post.here R (by unfold Rp; rfl)⟩
      · exact post.elim
    · exact post.elim
  · exact post.elim
end
/-! ## the end of a law -/
theorem law_end {T : Tb} {k : Nat} {φ : List D → Sto → Res D} {H : Hp} {a : Addr} {ns : List Int} (hO : Only H) (hS : SqL T.K H a (ns.map V.int)) (h : φ [.scr ns] [] = .ok (.bl true) []) :
    spD T 1 φ [.ref a] H (fun v _ => v = .bl true) fun _ _ _ => False := by
  have R : RelH T (fun _ => none) [] H [] H := by
    refine ⟨fun _ _ h => h, fun _ _ h => ?_, fun _ _ h => ?_, rfl, fun n c a h => ?_, fun n c a h => ?_, fun n m c c' a h => ?_⟩
    · cases h
    · cases h
    all_goals simp at h
  refine ⟨rfl, fun _ => none, [], H, [], [.scr ns], R, .cons (by unfold Rp; exact ⟨a, rfl, hS⟩) .nil, ?_⟩
  rw [h]
  intro v H' ι' F' g R r
  unfold Rp at r
  exact r
theorem cx_none {P : Program} {w : World} {H : Hp} {s s' : Shared} {e : Value} (h : L2.CX P w [] H s (fun _ _ _ => False) e s') : False := by
  obtain ⟨_, _, _, _, _, _, _, _, _, _, _, _, h⟩ := h
  exact h
theorem law_walks {l : PySem.W.OpenLaw} {k : Nat} {q : Program} {lo : List Str} {XP : (Str → Option Value) → Heap → Prop} {YP : World → Heap → Prop} {d : DefRec} {x : Str} (hm : l.most = some 63) (hdf : d.params.defaults = []) (room : Room k callerA)
    (F : ∀ (w : World) (mg : Str → Option Value) (fa : Addr) (h : Heap), YP w h → h.Ns mainGlobals mg → mg d.name = some (.ref fa) →
      ∃ (K : PySem.W.Frag) (fd : FuncData) (sp : Sp), K.In h ∧ (∀ (s : Shared) (u : Value), BindsTo s fd ⟨[u], []⟩ [(x, u)]) ∧
        (∀ (H : Hp) (a : Addr) (ns : List Int), ns.length ≤ 63 → Only H → SqL K H a (ns.map V.int) → sp [.ref a] H (fun v _ => v = .bl true) fun _ _ _ => False) ∧
        ∀ base : Heap, K.In base → base.Ns mainGlobals mg → FnOk l.prog w K mg base (L2.CX l.prog w) k fa fd [x] sp) :
    PySem.W.WalkO q lo XP YP l.row.toRowW d [] (fun f vs => PySem.call f vs) := by
  refine Att.attach_call hm hdf fun w sA sB mg mb fa o pm cd doc a vs ns G Y ho hd hcd hmg hobj hin hlen hg => ?_
  obtain ⟨K, fd, sp, KX, bi, pr, fn⟩ := F w mg fa _ Y G.T.g hmg
  exact law_call KX G.T.g G.T.b G.T.builtins G.T.nolimit hg hobj hin (Nat.le_trans hlen (by rw [sizeLine_eq]; decide)) room fn bi (fun H hO hS => pr H a ns hlen hO hS) fun H e s' z => cx_none z
end Mp
/-! # MpG -/
namespace Mp
open PySem PySem.Spec L2 PyProof.Rows
/-! ## the head's look, with one more Bool -/
abbrev AlE : Type := He.AlD × Bool
def obsE (fa : List He.Fa) (fn : List He.DefD) (ex : PySem.W.Frag → Bool) (K : PySem.W.Frag) : AlE := (He.obsD fa fn K, ex K)
structure SaysE (fa : List He.Fa) (fn : List He.DefD) (ex : PySem.W.Frag → Bool) (K : PySem.W.Frag) : Prop where
  d : He.SaysD fa fn K
  more : ex K = true
def obsEG (n : Nat) (fa : List He.Fa) (fn : List He.DefD) (ex : PySem.W.Frag → Bool) (g : Addr → Option Obj) : AlE := obsE fa fn ex (He.frG g (He.asD g n))
def hookE (n : Nat) (fa : List He.Fa) (fn : List He.DefD) (ex : PySem.W.Frag → Bool) : PySem.W.Hook where
  α := AlE
  obs := fun s => obsEG n fa fn ex s.heap.get?
  val := fun _ => (He.valD fn, true)
  says := fun _ h => ∃ K : PySem.W.Frag, K.In h ∧ SaysE fa fn ex K
  of := fun _ _ e => ⟨_, He.frG_in, congrArg (fun z : AlE => z.1) e, congrArg (fun z : AlE => z.2) e⟩
  keeps := fun _ _ _ ⟨K, hK, c⟩ k => ⟨K, PySem.W.Frag.In.keeps hK k, c⟩
theorem obsEG_eq {n : Nat} {fa : List He.Fa} {fn : List He.DefD} {ex : PySem.W.Frag → Bool} {g : Addr → Option Obj} {s : Shared} (h : ∀ a, g a = s.heap.get? a) : obsEG n fa fn ex g = (hookE n fa fn ex).obs s := by
  have e : g = s.heap.get? := funext h
  rw [e] <;> rfl
/-! ## the classes of exceptions: par.getD k k is k's parent (k itself where there is none) -/
def ancF (par : List Nat) : Nat → Nat → Nat → Bool
  | 0, k, c => k == c
  | n + 1, k, c => k == c || (par.getD k k != k && ancF par n (par.getD k k) c)
def ancO (par : List Nat) (k c : Nat) : Option Bool := if k < par.length ∧ c < par.length then some (ancF par par.length k c) else none
/-- n1: so many of them have no __init__ of their own -/
structure ExT (K : PySem.W.Frag) (ca : Nat → Addr) (par : List Nat) (n1 : Nat) : Prop where
  exm : ∀ k c b, ancO par k c = some b → PySem.W.exmOne K (.ref (ca k)) (.ref (ca c)) = some b
  kit : ∀ k c b, ancO par k c = some b → PySem.W.kitOne K (.ref (ca k)) (.ref (ca c)) = some b
  kiv : ∀ k, k < par.length → PySem.W.kitOne K (.ref (ca k)) (.type "ValueError") = some true
  exc : ∀ k, k < par.length → ExcC K (ca k)
  mkx : ∀ k, k < n1 → PySem.W.excIn K (ca k) He.veBase "ValueError.__new__" = true ∧ PySem.W.keepIn K (.ref (ca k)) = true ∧ PySem.W.subIn K (.ref (ca k)) (.type "BaseException") = some true ∧ PySem.W.typeIn K (.ref (ca k)) = some (.type "type")
def exc1 (K : PySem.W.Frag) (D : Addr) : Bool :=
  decide (PySem.W.findIn K (.ref D) "__getattribute__" = some (some (.builtin "BaseException.__getattribute__"))) && (decide (PySem.W.findIn K (.ref D) "__getattr__" = some none) && (decide (PySem.W.subIn K (.ref D) (.type "BaseException") = some true) && (PySem.W.hasDictIn K D &&
  (decide (PySem.W.findIn K (.ref D) "__class__" = some (some (.builtin "object.__class__"))) && (decide (PySem.W.specialIn K (.builtin "object.__class__") "__get__" = some (some (.builtin "getset_descriptor.__get__"))) && (decide (PySem.W.takesIn K (.builtin "object.__class__") = some true) &&
  (decide (PySem.W.mroIn K D (.type "object") = some true) && decide (PySem.W.kitOne K (.ref D) (.type "ValueError") = some true))))))))
def mkx1 (K : PySem.W.Frag) (D : Addr) : Bool := PySem.W.excIn K D He.veBase "ValueError.__new__" && (PySem.W.keepIn K (.ref D) && (decide (PySem.W.subIn K (.ref D) (.type "BaseException") = some true) && decide (PySem.W.typeIn K (.ref D) = some (.type "type"))))
def exB (ca : PySem.W.Frag → Nat → Addr) (par : List Nat) (n1 : Nat) (K : PySem.W.Frag) : Bool := ((List.range n1).all fun k => mkx1 K (ca K k)) && (List.range par.length).all fun k => exc1 K (ca K k) && (List.range par.length).all fun c => decide (PySem.W.exmOne K (.ref (ca K k)) (.ref (ca K c)) = some (ancF par par.length k c)) && decide (PySem.W.kitOne K (.ref (ca K k)) (.ref (ca K c)) = some (ancF par par.length k c))
theorem exT_of {ca : PySem.W.Frag → Nat → Addr} {par : List Nat} {n1 : Nat} {K : PySem.W.Frag} (h0 : exB ca par n1 K = true) : ExT K (ca K) par n1 := by
  unfold exB at h0
  obtain ⟨hm, h⟩ := He.ba h0
  rw [List.all_eq_true] at h hm
  have one : ∀ k, k < par.length → exc1 K (ca K k) = true ∧ ∀ c, c < par.length → PySem.W.exmOne K (.ref (ca K k)) (.ref (ca K c)) = some (ancF par par.length k c) ∧ PySem.W.kitOne K (.ref (ca K k)) (.ref (ca K c)) = some (ancF par par.length k c) := fun k hk => by
    obtain ⟨h1, h2⟩ := He.ba (h k (List.mem_range.mpr hk))
    refine ⟨h1, fun c hc => ?_⟩
    rw [List.all_eq_true] at h2
    obtain ⟨h3, h4⟩ := He.ba (h2 c (List.mem_range.mpr hc))
    exact ⟨of_decide_eq_true h3, of_decide_eq_true h4⟩
  have two : ∀ k c b, ancO par k c = some b → k < par.length ∧ c < par.length ∧ ancF par par.length k c = b := fun k c b e => by
    unfold ancO at e
    split at e
    · rename_i hk
      exact ⟨hk.1, hk.2, Option.some.inj e⟩
    · cases e
  refine ⟨fun k c b e => ?_, fun k c b e => ?_, fun k hk => ?_, fun k hk => ?_, fun k hk => ?_⟩
  · obtain ⟨h1, h2, h3⟩ := two k c b e
    rw [← h3]; exact ((one k h1).2 c h2).1
  · obtain ⟨h1, h2, h3⟩ := two k c b e
    rw [← h3]; exact ((one k h1).2 c h2).2
  · have z := (one k hk).1
    unfold exc1 at z
    simp only [Bool.and_eq_true, decide_eq_true_eq] at z
    exact z.2.2.2.2.2.2.2.2
  · have z := (one k hk).1
    unfold exc1 at z
    simp only [Bool.and_eq_true, decide_eq_true_eq] at z
    obtain ⟨z1, z2, z3, z4, z5, z6, z7, z8, z9⟩ := z
    exact ⟨z1, z2, z3, z4, z5, z6, z7, z8⟩
  · have z := hm k (List.mem_range.mpr hk)
    unfold mkx1 at z
    simp only [Bool.and_eq_true, decide_eq_true_eq] at z
    exact z
/-! ## raise -/
def sRaise (c : Nat) : DS := fun δ s => .ex c δ s
section
variable {T : Tb} {X : Cx} {par : List Nat} {n1 : Nat}
theorem s_raise {x m : Str} {j : Nat} {p p2 pos pos' : Pos} (c : Nat) (x1 : ExT T.K T.ca par n1) (gC : X.mg x = some (.ref (T.ca c))) (hc : c < n1 := by decide) (hg : Gl X x := by rfl) (hdb : (x == ("__debug__" : Str)) = false := by decide) (hcalm : X.calm = true := by rfl) (hK : X.K = T.K := by rfl) :
    PDs T X (.Raise (some (.Call (.Name x p) [.Constant (.str m) j p2] [] pos)) none pos') (sRaise c) := fun pn xe W tk ow => by
  obtain ⟨h1, h2, h3, h4⟩ := x1.mkx c hc
  rw [← hK] at h1 h2 h3 h4
  refine ⟨_, ps_raise (X := X.tr pn xe) hcalm tk (pmk_own (X := X.tr pn xe) F.excBase_ValueError h1 gC h2 (raises_own h3 h4) hg hdb), fun En σ H P ι F δ s R E post => ?_⟩
  exact post σ H ι F (Grow.refl _ _) R E
end
/-! ## what the except suite holds is tracked -/
theorem Inv.track {X : Cx} {pins : List (Addr × Obj)} {σ : L2.St} {H : Hp} {s : Shared} {a : Addr} {cls : Value} {oe : Obj} {vs : Array Value} (I : Inv X pins σ H s) (ha : s.heap.get? a = some oe) (hz : Zc cls none oe) (hd : oe.data = .fields vs) (na : H a = none) (nL : a ≠ X.env.locals)
    (n0 : X.s_0.heap.get? a = none) (np : ∀ p ∈ X.pn ++ pins, p.1 ≠ a) : Inv X pins σ (upd H a (ExV cls a)) s := by
  have un : ∀ b, b ≠ a → upd H a (ExV cls a) b = H b := fun b h => upd_ne h
  refine ⟨I.ok, I.os, I.bare, ⟨I.base.keep, I.base.slot, fun b o e n hx => ?_, I.base.there, fun b xs e => ?_, fun b o u e => ?_, fun b ps e => ?_⟩, I.loc, I.cell, ?_, fun x c e => ?_, fun p hp => ?_, fun b u e => ?_, I.len⟩
  · rw [un b fun z => by subst z; rw [n0] at e; cases e]
    exact I.base.free b o e n hx
  · have q := I.base.tups b xs e
    rw [un b fun z => by subst z; rw [na] at q; cases q]
    exact q
  · have q := I.base.frzs b o u e
    rw [un b fun z => by subst z; rw [na] at q; cases q]
    exact q
  · obtain ⟨more, q⟩ := I.base.tbls b ps e
    rw [un b fun z => by subst z; rw [na] at q; cases q]
    exact ⟨more, q⟩
  · rw [un _ (Ne.symm nL)]
    exact I.free
  · rw [un c fun z => by
      subst z
      obtain ⟨v, o, ho, hd'⟩ := I.cell x c e
      rw [ha] at ho; cases ho
      rw [hd] at hd'; cases hd']
    exact I.freeC x c e
  · obtain ⟨e, n, ne, nf, d⟩ := I.pin p hp
    exact ⟨e, by rw [un _ (np p hp)]; exact n, ne, nf, d⟩
  · by_cases hb : b = a
    · subst hb
      rw [upd_same] at e
      cases e
      exact ⟨⟨oe, ha, hz, vs, hd⟩, ⟨oe, ha⟩, fun h1 h2 q k => by
        obtain ⟨o, q1, q2⟩ := q
        exact ⟨o, k o q1, q2⟩⟩
    · rw [un b hb] at e
      exact (I.hok b u e).stay (fun _ _ _ q => q) (fun c q => by rw [upd_ne (ne_of_none q na)]; exact q) fun c xs q => by rw [upd_ne (ne_of_none q na)]; exact q
/-- what the clause wishes of an exception of the body; i: the name's slot -/
def setO (i : Option Nat) (o : Option V) (σ : L2.St) : L2.St := match i with
  | some i => σ.set i o
  | none => σ
def wTr (K : PySem.W.Frag) (c : Value) (i : Option Nat) (ts : TS) (Wout : WX) (D : Ends) : WX := fun cls d σ H =>
  ∃ b, PySem.W.exmOne K cls c = some b ∧ (b = true → d = none ∧ ∀ a, H a = none → ts { nx := fun σ' H' => D.nx (setO i none σ') H', rt := D.rt, bk := fun σ' H' => D.bk (setO i none σ') H', ct := fun σ' H' => D.ct (setO i none σ') H' } (setO i (some (.ref a)) σ) (upd H a (ExV cls a))) ∧
    (b = false → Wout cls d σ H)
section
variable {X : Cx} {x n : Str} {c : Value} {i : Nat} {body suite : List Stmt} {b₀ : Stmt} {np pos pos' : Pos} {tb : WX → TS} {ts : TS} {Wout : WX}
theorem Inv.toSuite {pins : List (Addr × Obj)} {σ : L2.St} {H : Hp} {s : Shared} (I : Inv X pins σ H s) (a : Addr) : Inv (X.suite a (X.pn ++ pins)) [] σ H s :=
  ⟨I.ok.suite _ _, I.os, I.bare, I.base, I.loc, I.cell, I.free, I.freeC, fun p hp => I.pin p (by rw [List.append_nil] at hp; exact hp), I.hok, I.len⟩
theorem Inv.ofSuite {pins pn' : List (Addr × Obj)} {σ : L2.St} {H : Hp} {s : Shared} {a : Addr} (I : Inv (X.suite a (X.pn ++ pins)) pn' σ H s) (ok : X.Ok) : Inv X pins σ H s :=
  ⟨ok, I.os, I.bare, I.base, I.loc, I.cell, I.free, I.freeC, fun p hp => I.pin p (List.mem_append_left _ hp), I.hok, I.len⟩
theorem ps_tryT (hs : X.stack = X.env :: X.outer) (hf : X.env.frame = some X.env.locals) (hex : X.ex = []) (hN : X.N.Nodup) (hi : X.N[i]? = some n) (hln : X.env.kindOf n = some .local) (hc : Names X x c) (tk : Takes X Wout)
    (hb : ∀ (W : WX) (pn : List (Addr × Obj)) (xe : Value → Shared → Prop), Takes (X.tr pn xe) W → PassesOwn (model X.prog X.w) X.A X.env xe → PSs (X.tr pn xe) body (tb W))
    (hsu : ∀ (a : Addr) (pn : List (Addr × Obj)), PSs (X.suite a pn) (b₀ :: suite) ts) :
    PS X (.Try body [.ExceptHandler (some (.Name x np)) (some n) (b₀ :: suite) pos'] [] [] pos) (fun D σ H => tb (wTr X.K c (some i) ts Wout D) D σ H) := by
  refine ⟨fun pins s σ H D I h => ?_⟩
  have ok := I.ok
  have hfr : X.A.frames = some (X.env :: X.outer) := by rw [ok.frames, hs]
  have hloc : Loc X.env.scope n := .inl hln
  refine wpAny_Try_except ?_
  refine wpAny_mono ((hb (wTr X.K c (some i) ts Wout D) (X.pn ++ pins) (fun e s₁ => wpAny (model X.prog X.w) X.A (noteFrame e X.env) (fun _ s₂ => wpAny (model X.prog X.w) X.A (setFlight e none) (fun _ s₃ =>
    wpAny (model X.prog X.w) X.A (handleBy e X.env [.ExceptHandler (some (.Name x np)) (some n) (b₀ :: suite) pos']) (SP X pins D) X.xe s₃) X.xe s₂) X.xe s₁) (fun u s' xx => ?_) PassesOwn.looking).run [] s σ H D (I.toTry _) h) (fun f s1 hsp => ?_) (fun e s1 he => he)
  · obtain ⟨a, B, sI, pins', σ', H', cls, d, rfl, J', nb, up, sky, na, os, ag, b, hb1, hyes, hno⟩ := xx
    have J : Inv X pins σ' H' sI := J'.ofTry ok
    have sky' : Sky B (X.env :: X.outer) a (Zc cls d) X.env.locals s'.heap := by rw [← hs]; exact sky
    show wpAny (model X.prog X.w) X.A (noteFrame (.ref a) X.env) _ _ _
    refine Sky.land Zc.steady hfr hf sky' fun h3 fl3 up3 => ?_
    have J3 : Inv X pins σ' H' { s' with heap := h3 } := J.landed nb fl3.1 (up.trans up3) os ag
    obtain ⟨oe3, vs3, he3, hz3, hd3⟩ := fl3.there
    have notFr : ∀ {h : Heap} {o : Obj} {vs : Array Value}, h.FunFrames B (X.env :: X.outer) → h.get? a = some o → o.data = .fields vs → a ∉ frs (X.env :: X.outer) := fun {h o vs} ff e dd hm => by
      obtain ⟨_, o', e', hnf⟩ := ff.mem hm
      rw [e] at e'; cases e'
      exact hnf _ dd
    have nfr := notFr fl3.2.2.1 he3 hd3
    have nL : a ≠ X.env.locals := fun z => nfr (List.mem_filterMap.mpr ⟨X.env, List.mem_cons_self, by rw [hf, z]⟩)
    have nF : a ∉ X.fs := fun hm => by
      obtain ⟨e, he, q⟩ := List.mem_filterMap.mp hm
      exact nfr (List.mem_filterMap.mpr ⟨e, List.mem_cons_of_mem _ he, q⟩)
    have S3 := J3.suite he3 hd3 na nL nF
    refine wpAny_handleBy_cons (codeAny_handlers_test ?_) (by intro q; cases q)
    have LT : PySem.W.Looks (model X.prog X.w) h3 (typeOf (.ref a)) cls := fun A Q E s k q => wpAny_typeOf_ref (k _ _ he3) (by rw [hz3.1]; exact q)
    have LM := PySem.W.exm_one (M := model X.prog X.w) (J3.kIn) LT hb1
    have test : ∀ {Q : Value → Shared → Prop} {E : Value → Shared → Prop}, Q c { s' with heap := h3 } → wpAny (model X.prog X.w) (X.A.mark (some (.ref a))) (eval (.Name x np) X.env) Q E { s' with heap := h3 } := fun {Q E} q => by
      obtain ⟨hg, hdbg, hm | ⟨hm, hv, hnn⟩⟩ := hc
      · exact ld_glob (X := X.suite a ((a, oe3) :: (X.pn ++ pins))) S3 hg hm q hdbg
      · exact ld_blt (X := X.suite a ((a, oe3) :: (X.pn ++ pins))) S3 hg hm hv q hnn hdbg
    refine test (LM.here ?_)
    cases b with
    | true =>
      refine codeAny_handlers_suite_as ?_
      refine HandSPX.lands_againZ fl3 fun h4 fl4 up4 => ?_
      have J4 : Inv X pins σ' H' { s' with heap := h4 } := J.landed nb fl4.1 ((up.trans up3).trans up4) os ag
      obtain ⟨oe4, vs4, he4, hz4, hd4⟩ := fl4.there
      obtain ⟨rfl, hyes'⟩ := hyes rfl
      have nst : a ∉ frs X.stack := by rw [hs]; exact nfr
      have n0 : X.s_0.heap.get? a = none := by
        cases q : X.s_0.heap.get? a with
        | none => rfl
        | some o =>
          obtain ⟨o', e'⟩ := J.base.there a o q (by rw [hex]; exact fun z => by cases z)
          have z := nb a o' e' nst
          rw [fl4.2.1] at z; cases z
      have np' : ∀ p ∈ X.pn ++ pins, p.1 ≠ a := fun p hp z => by
        obtain ⟨e, _⟩ := J.pin p hp
        rw [z] at e
        have y := nb a _ e nst
        rw [fl4.2.1] at y; cases y
      have J5 := Inv.track J4 he4 hz4 hd4 na nL n0 np'
      refine store_ok (X := X.suite a (X.pn ++ pins)) (v := .ref a) (Inv.toSuite J5 a) hN hi hloc rfl (fun s5 S5 => ?_) (.inr hln)
      refine wpAny_mono ((hsu a (X.pn ++ pins)).run [] s5 _ _ _ S5 (hyes' a na)) (fun f s6 hsp => ?_) (fun _ _ z => False.elim z)
      have end_ : ∀ {σ6 : L2.St} {H6 : Hp} {Q : Shared → Prop}, Inv (X.suite a (X.pn ++ pins)) [] σ6 H6 s6 → (∀ s7, Inv X pins (σ6.set i none) H6 s7 → Q s7) →
          wpAny (model X.prog X.w) X.A (do bindName X.env n .none; unbindBehindTheSuite X.env n pos') (fun _ s7 => Q s7) X.xe s6 := fun {σ6 H6 Q} S6 hq => gone_ok (Inv.ofSuite S6 ok) hN hi hln hq
      cases f with
      | next =>
        obtain ⟨σ6, H6, S6, q6⟩ := hsp
        exact end_ S6 fun s7 J7 => ⟨_, _, J7, q6⟩
      | brk =>
        obtain ⟨σ6, H6, S6, q6⟩ := hsp
        exact end_ S6 fun s7 J7 => ⟨_, _, J7, q6⟩
      | cont =>
        obtain ⟨σ6, H6, S6, q6⟩ := hsp
        exact end_ S6 fun s7 J7 => ⟨_, _, J7, q6⟩
      | ret u =>
        obtain ⟨v6, σ6, H6, S6, r6, q6⟩ := hsp
        exact end_ S6 fun s7 J7 => ⟨_, _, _, J7, r6, q6⟩
    | false =>
      show wpAny _ X.A (handleBy (.ref a) X.env []) _ _ _
      refine wpAny_handleBy_nil ?_
      obtain ⟨k1, k2, k3, oe, vs, T, oT, ts', he, hz, hd, h1, hr⟩ := id fl3
      unfold PySem.passOn
      refine wpAny_bind (wpAny_field he hd h1 ?_)
      rw [if_neg (show ¬ ((Value.ref T == Value.none) = true) from by simp)]
      have fin : wpAny (model X.prog X.w) X.A (setFlight (.ref a) X.env.frame) (fun _ s4 => wpAny (model X.prog X.w) X.A (throw (.ref a) : Sem Flow) (SP X pins D) X.xe s4) X.xe { s' with heap := h3 } := by
        rw [hf]
        refine HandSPX.setFlight_upZ fl3 fun h4 hh4 up4 => wpAny_throw (tk _ _ ?_)
        exact ⟨a, B, sI, pins, σ', H', cls, d, rfl, J, nb, (up.trans up3).trans up4, .inr (.inr (by rw [hs]; exact hh4)), na, os, ag, hno rfl⟩
      first
        | exact wpAny_bind (wpAny_pure (wpAny_bind fin))
        | exact wpAny_bind fin
  · cases f with
    | next =>
      obtain ⟨σ', H', J', q⟩ := hsp
      exact wpAny_execs_nil ⟨σ', H', J'.ofTry ok, q⟩
    | brk =>
      obtain ⟨σ', H', J', q⟩ := hsp
      exact ⟨σ', H', J'.ofTry ok, q⟩
    | cont =>
      obtain ⟨σ', H', J', q⟩ := hsp
      exact ⟨σ', H', J'.ofTry ok, q⟩
    | ret u =>
      obtain ⟨v, σ', H', J', r, q⟩ := hsp
      exact ⟨v, σ', H', J'.ofTry ok, r, q⟩
end
/-! ## try -/
def canS (T : Tb) (W : WX) (g : DS) : TS := fun D σ H => ∃ P ι F δ s, RelH T P ι F s H ∧ REnv T F ι δ σ ∧ PostS T P D W F ι (g δ s)
theorem PSs.weak {X : Cx} {b : List Stmt} {t t' : TS} (h : PSs X b t) (k : ∀ D σ H, t' D σ H → t D σ H) : PSs X b t' := ⟨fun pins s σ H D I q => h.run pins s σ H D I (k _ _ _ q)⟩
theorem DenS.can {T : Tb} {W : WX} {t : TS} {g : DS} (d : DenS T W t g) {D : Ends} {σ : L2.St} {H : Hp} (h : canS T W g D σ H) : t D σ H := by
  obtain ⟨P, ι, F, δ, s, R, E, post⟩ := h
  exact d _ _ _ _ _ _ _ _ R E post
def setE (i : Option Nat) (o : Option D) (δ : Env) : Env := match i with
  | some i => δ.set i o
  | none => δ
def Out.unset (i : Option Nat) : Out → Out
  | .nx δ s => .nx (setE i none δ) s
  | .bk δ s => .bk (setE i none δ) s
  | .ct δ s => .ct (setE i none δ) s
  | .rt d s => .rt d s
  | _ => .stuck
def sTry (anc : Nat → Nat → Option Bool) (c : Nat) (i : Option Nat) (f g : DS) : DS := fun δ s => match f δ s with
  | .ex k δ1 s1 => match anc k c with
    | some true => (g (setE i (some (.exc k)) δ1) s1).unset i
    | some false => .ex k δ1 s1
    | none => .stuck
  | o => o
section
variable {T : Tb} {X : Cx} {par : List Nat} {n1 : Nat}
theorem REnv.setO {F : Hp} {ι : List Addr} {δ : Env} {σ : L2.St} {d : D} {v : V} (e : REnv T F ι δ σ) (h : Rp T F ι d v) (i : Option Nat) : REnv T F ι (setE i (some d) δ) (Mp.setO i (some v) σ) := by
  cases i with
  | none => exact e
  | some i => exact e.set h i
theorem REnv.unsetO {F : Hp} {ι : List Addr} {δ : Env} {σ : L2.St} (e : REnv T F ι δ σ) (i : Option Nat) : REnv T F ι (setE i none δ) (Mp.setO i none σ) := by
  cases i with
  | none => exact e
  | some i => exact e.unset i
theorem den_try {W : WX} {c : Nat} {i : Option Nat} {f g : DS} (x1 : ExT T.K T.ca par n1) : DenS T W (fun D σ H => canS T (wTr T.K (.ref (T.ca c)) i (canS T W0 g) W D) f D σ H) (sTry (ancO par) c i f g) := fun En σ H P ι F δ s R E post => by
  refine ⟨P, ι, F, δ, s, R, E, ?_⟩
  unfold sTry at post
  cases e : f δ s with
  | ex k δ1 s1 =>
    rw [e] at post
    intro σ' H' ι' F' g' R' E'
    dsimp only at post
    cases q : ancO par k c with
    | none => rw [q] at post; exact post.elim
    | some b =>
      refine ⟨b, x1.exm k c b q, fun hb => ⟨rfl, fun a na => ?_⟩, fun hb => ?_⟩
      · subst hb
        rw [q] at post
        dsimp only at post
        have R2 := R'.new na (ExV (.ref (T.ca k)) a)
        have g2 : Grow F' ι' (upd F' a (ExV (.ref (T.ca k)) a)) ι' := grow_new (R'.freeF na) _
        refine ⟨P, ι', _, setE i (some (.exc k)) δ1, s1, R2, (E'.mono g2).setO (by unfold Rp; exact ⟨a, rfl, upd_same⟩) i, ?_⟩
        have gg := g'.trans g2
        cases e2 : g (setE i (some (.exc k)) δ1) s1 with
        | nx δ2 s2 =>
          rw [e2] at post
          exact fun σ3 H3 ι3 F3 g3 R3 E3 => post _ H3 ι3 F3 (gg.trans g3) R3 (E3.unsetO i)
        | bk δ2 s2 =>
          rw [e2] at post
          exact fun σ3 H3 ι3 F3 g3 R3 E3 => post _ H3 ι3 F3 (gg.trans g3) R3 (E3.unsetO i)
        | ct δ2 s2 =>
          rw [e2] at post
          exact fun σ3 H3 ι3 F3 g3 R3 E3 => post _ H3 ι3 F3 (gg.trans g3) R3 (E3.unsetO i)
        | rt d s2 =>
          rw [e2] at post
          exact fun v H3 ι3 F3 g3 R3 r3 => post v H3 ι3 F3 (gg.trans g3) R3 r3
        | ex k2 δ2 s2 => rw [e2] at post; exact post.elim
        | stuck => rw [e2] at post; exact post.elim
      · subst hb
        rw [q] at post
        exact post σ' H' ι' F' g' R' E'
  | nx δ1 s1 => rw [e] at post; exact post
  | rt d s1 => rw [e] at post; exact post
  | bk δ1 s1 => rw [e] at post; exact post
  | ct δ1 s1 => rw [e] at post; exact post
  | stuck => rw [e] at post; exact post
theorem s_tryA {x n : Str} {body suite : List Stmt} {b₀ : Stmt} {np pos pos' : Pos} {f g : DS} (c i : Nat) (x1 : ExT T.K T.ca par n1) (hN : X.N.Nodup) (gC : X.mg x = some (.ref (T.ca c))) (hb : PDb T X body f) (hsu : ∀ (a : Addr) (pn : List (Addr × Obj)), PDb T (X.suite a pn) (b₀ :: suite) g)
    (hi : X.N[i]? = some n := by rfl) (hln : X.env.kindOf n = some .local := by rfl) (hg : Gl X x := by rfl) (hdb : (x == ("__debug__" : Str)) = false := by decide) (hs : X.stack = X.env :: X.outer := by rfl) (hf : X.env.frame = some X.env.locals := by rfl) (hex : X.ex = [] := by rfl) (hK : X.K = T.K := by rfl) :
    PDs T X (.Try body [.ExceptHandler (some (.Name x np)) (some n) (b₀ :: suite) pos'] [] [] pos) (sTry (ancO par) c (some i) f g) := fun pn xe W tk ow => by
  have hK' : (X.tr pn xe).K = T.K := hK
  have key := ps_tryT (X := X.tr pn xe) (x := x) (n := n) (c := .ref (T.ca c)) (i := i) (body := body) (suite := suite) (b₀ := b₀) (np := np) (pos := pos) (pos' := pos') (tb := fun W' => canS T W' f) (ts := canS T W0 g) (Wout := W) hs hf hex hN hi hln ⟨hg, hdb, .inl gC⟩ tk
    (fun W' pn' xe' tk' ow' => by
      obtain ⟨t, p, d⟩ := hb pn' xe' W' tk' ow'
      exact PSs.weak p fun D σ H q => d.can q)
    (fun a pn' => by
      obtain ⟨t, p, d⟩ := hsu a pn' pn' (fun _ _ => False) W0 takes0 PassesOwn.never
      exact PSs.weak p fun D σ H q => d.can q)
  rw [hK'] at key
  exact ⟨_, key, den_try x1⟩
end
/-! ## isinstance, exceptions among -/
theorem CallR.or {X : Cx} {f : Value} {r r' : List V → Hp → VK → Prop} (h : CallR X f r) (h' : CallR X f r') : CallR X f (fun vs H Q => r vs H Q ∨ r' vs H Q) := by
  intro pins s σ H xs us Q I rv q
  rcases q with q | q
  · exact h pins s σ H xs us Q I rv q
  · exact h' pins s σ H xs us Q I rv q
def rIsX (K : PySem.W.Frag) : List V → Hp → VK → Prop := fun xs H Q => ∃ (a D : Addr) (c : V) (cv : Value) (b : Bool), xs = [.ref a, c] ∧ H a = some (ExV (.ref D) a) ∧ ExcC K D ∧ ClsV c cv ∧ PySem.W.kitOne K (.ref D) cv = some b ∧ Q (.bl b) H
theorem call_isX {X : Cx} : CallR X (.builtin "isinstance") (rIsX X.K) := by
  intro pins s σ H xs us Q I r h
  obtain ⟨a, D, c, cv, b, rfl, hH, C, hcv, e, q⟩ := h
  obtain ⟨u1, u2, rfl, r1, r2⟩ := vals2 r
  cases (show u1 = Value.ref a from r1)
  have e2 := hcv.eq r2
  subst e2
  obtain ⟨⟨oe, hget, hz, vs, hv⟩, _⟩ := (show ObjOk X.prog X.w H s.heap a (ExV (.ref D) a) from I.hok a _ hH)
  have J : PySem.W.InstAt s.heap a oe D none := by
    obtain ⟨oc, od, oda, osl⟩ := oe
    obtain ⟨h1, h2⟩ := hz
    dsimp only at h1 h2 hv
    subst h1 h2 hv
    exact ⟨hget, rfl, rfl, trivial⟩
  exact PySem.W.kia_one (PySem.W.handS_kitx_exc C.hg C.hk C.hs C.hd C.ha C.hn C.ht C.hm) I.kIn J e (fun z => nomatch z) fun tk => ⟨.bl b, H, I.kept (t' := tk) fun _ _ z => z, rfl, q⟩
def rIsA (K : PySem.W.Frag) : List V → Hp → VK → Prop := fun xs H Q => rIsi K xs H Q ∨ rIsX K xs H Q
theorem call_isA {X : Cx} : CallR X (.builtin "isinstance") (rIsA X.K) := CallR.or call_isi call_isX
def bIsA (par : List Nat) : DB
  | [.exc k, .cls c], s => match ancO par k c with
    | some b => .ok (.bl b) s
    | none => .stuck
  | [.exc k, .ty n], s => if n = "ValueError" ∧ k < par.length then .ok (.bl true) s else .stuck
  | [x, .ty n], s => match tyOf s x with
    | some t => match kitB t n with
      | some b => .ok (.bl b) s
      | none => .stuck
    | none => .stuck
  | _, _ => .stuck
theorem db_isA {T : Tb} {par : List Nat} {n1 : Nat} (x1 : ExT T.K T.ca par n1) : DenB T (rIsA T.K) (bIsA par) := by
  intro ds vs H P ι F s Q E R r post
  unfold bIsA at post
  split at post
  · rename_i k c
    obtain ⟨v, u, rfl, h1, h2⟩ := rps2 r
    unfold Rp at h1 h2
    obtain ⟨a, rfl, h1⟩ := h1
    subst h2
    split at post
    · rename_i b hb
      have hk : k < par.length := by
        unfold ancO at hb
        split at hb
        · rename_i z; exact z.1
        · cases hb
      exact .inr ⟨a, T.ca k, .ref (T.ca c), .ref (T.ca c), b, rfl, R.sub _ _ h1, x1.exc _ hk, .own _, x1.kit _ _ _ hb, post.here R (by unfold Rp; rfl)⟩
    · exact post.elim
  · obtain ⟨v, u, rfl, h1, h2⟩ := rps2 r
    unfold Rp at h1 h2
    obtain ⟨a, rfl, h1⟩ := h1
    subst h2
    split at post
    · rename_i hk
      obtain ⟨rfl, hk⟩ := hk
      exact .inr ⟨a, _, _, _, true, rfl, R.sub _ _ h1, x1.exc _ hk, .ty _, x1.kiv _ hk, post.here R (by unfold Rp; rfl)⟩
    · exact post.elim
  · obtain ⟨v, u, rfl, h1, h2⟩ := rps2 r
    split at post
    · rename_i t ht
      split at post
      · rename_i b hb
        unfold Rp at h2
        subst h2
        exact .inl ⟨v, _, _, _, b, rfl, .ty _, ty_ok R h1 ht, kit_ty hb, post.here R (by unfold Rp; rfl)⟩
      · exact post.elim
    · exact post.elim
  · exact post.elim
end Mp
/-! # MpH -/
namespace Mp
open PySem PySem.Spec L2
/-! ## cells -/
section
variable {T : Tb} {P : Hp} {ι : List Addr} {F : Hp} {s : Sto} {H : Hp}
theorem grow_app (F : Hp) (ι : List Addr) (p : Addr) : Grow F ι F (ι ++ [p]) := ⟨fun _ _ h => h, [p], rfl⟩
/-- a new cell -/
theorem RelH.alloc (R : RelH T P ι F s H) {p : Addr} (hp : H p = none) {o : HO} {c : Cell} (hc : CellAt T (ι ++ [p]) F (upd H p o) p c) : RelH T P (ι ++ [p]) F (s ++ [c]) (upd H p o) := by
  have old : ∀ {n : Nat} {c' : Cell} {a : Addr}, s[n]? = some c' → (ι ++ [p])[n]? = some a → ι[n]? = some a := fun {n c' a} h1 h2 => by
    have := (List.getElem?_eq_some_iff.mp h1).1
    rw [List.getElem?_append_left (by rw [R.len]; exact this)] at h2
    exact h2
  have split_ : ∀ {n : Nat} {c' : Cell}, (s ++ [c])[n]? = some c' → s[n]? = some c' ∨ (n = s.length ∧ c' = c) := fun {n c'} h => by
    by_cases hn : n < s.length
    · rw [List.getElem?_append_left hn] at h; exact .inl h
    · rw [List.getElem?_append_right (Nat.le_of_not_lt hn)] at h
      have hl := (List.getElem?_eq_some_iff.mp h).1
      have e0 : n - s.length = 0 := by simpa using hl
      rw [e0] at h
      exact .inr ⟨by omega, (Option.some.inj h).symm⟩
  have newI : ∀ {a : Addr}, (ι ++ [p])[s.length]? = some a → a = p := fun {a} h => by
    rw [← R.len] at h
    simp at h
    exact h.symm
  have ne : ∀ {n : Nat} {c' : Cell} {a : Addr}, s[n]? = some c' → c'.live = true → ι[n]? = some a → a ≠ p := fun {n c' a} h1 l h2 => by
    obtain ⟨u, hu⟩ := (R.cell n c' a h1 h2).has l
    exact ne_of_none hu hp
  refine ⟨fun a u h => ?_, fun a u h => ?_, R.dis, by simp [R.len], fun n c' a h1 h2 => ?_, fun n c' a h1 l h2 => ?_, fun n m c1 c2 a h1 h2 l1 l2 h3 h4 => ?_⟩
  · have q := R.sub a u h
    rw [upd_ne (ne_of_none q hp)]; exact q
  · have q := R.pro a u h
    rw [upd_ne (ne_of_none q hp)]; exact q
  · rcases split_ h1 with h1 | ⟨rfl, rfl⟩
    · have h2' := old h1 h2
      refine (R.cell n c' a h1 h2').grow (grow_app _ _ _) (fun _ => rfl) (fun l => upd_ne (ne h1 l h2'))
    · rw [newI h2]; exact hc
  · rcases split_ h1 with h1 | ⟨rfl, rfl⟩
    · exact R.npr n c' a h1 l (old h1 h2)
    · rw [newI h2]; exact R.freeP hp
  · rcases split_ h1 with k1 | ⟨e1, f1⟩
    · rcases split_ h2 with k2 | ⟨e2, f2⟩
      · exact R.nod n m c1 c2 a k1 k2 l1 l2 (old k1 h3) (old k2 h4)
      · exact absurd (newI (e2 ▸ h4)) (ne k1 l1 (old k1 h3))
    · rcases split_ h2 with k2 | ⟨e2, f2⟩
      · exact absurd (newI (e1 ▸ h3)) (ne k2 l2 (old k2 h4))
      · rw [e1, e2]
/-- a cell is written -/
theorem RelH.setC (R : RelH T P ι F s H) {n : Nat} {a : Addr} {c c' : Cell} {o : HO} (hs : s[n]? = some c) (hl : c.live = true) (hi : ι[n]? = some a) (hc : CellAt T ι F (upd H a o) a c') : RelH T P ι F (s.set n c') (upd H a o) := by
  have hn := (List.getElem?_eq_some_iff.mp hs).1
  have hF : F a = none := by
    have q := R.cell n c a hs hi
    cases c with
    | dead => cases hl
    | lst _ => exact q.1
    | dct _ _ => exact q.1
    | obj _ _ _ => exact q.1
  have hP := R.npr n c a hs hl hi
  have at_ : ∀ {m : Nat} {d : Cell}, (s.set n c')[m]? = some d → (m = n ∧ d = c') ∨ (m ≠ n ∧ s[m]? = some d) := fun {m d} h => by
    by_cases e : n = m
    · subst e
      rw [List.getElem?_set_self hn] at h
      exact .inl ⟨rfl, (Option.some.inj h).symm⟩
    · rw [List.getElem?_set_ne e] at h
      exact .inr ⟨fun z => e z.symm, h⟩
  have ne : ∀ {m : Nat} {d : Cell} {b : Addr}, m ≠ n → s[m]? = some d → d.live = true → ι[m]? = some b → b ≠ a := fun {m d b} hm h l hb z => by
    subst z
    exact hm (R.nod m n d c b h hs l hl hb hi)
  have hio : ∀ {b : Addr}, ι[n]? = some b → b = a := fun {b} h => by rw [hi] at h; exact (Option.some.inj h).symm
  refine ⟨fun b u h => ?_, fun b u h => ?_, R.dis, by simp [R.len], fun m d b h1 h2 => ?_, fun m d b h1 l h2 => ?_, fun m k c1 c2 b h1 h2 l1 l2 h3 h4 => ?_⟩
  · rw [upd_ne (ne_of_none h hF)]; exact R.sub b u h
  · rw [upd_ne (ne_of_none h hP)]; exact R.pro b u h
  · rcases at_ h1 with ⟨rfl, rfl⟩ | ⟨hm, h1⟩
    · rw [hio h2]; exact hc
    · exact (R.cell m d b h1 h2).grow (Grow.refl _ _) (fun _ => rfl) fun l => upd_ne (ne hm h1 l h2)
  · rcases at_ h1 with ⟨rfl, rfl⟩ | ⟨hm, h1⟩
    · rw [hio h2]; exact hP
    · exact R.npr m d b h1 l h2
  · rcases at_ h1 with ⟨e1, f1⟩ | ⟨hm, k1⟩
    · rcases at_ h2 with ⟨e2, f2⟩ | ⟨hk, k2⟩
      · rw [e1, e2]
      · exact absurd (hio (e1 ▸ h3)) (ne hk k2 l2 h4)
    · rcases at_ h2 with ⟨e2, f2⟩ | ⟨hk, k2⟩
      · exact absurd (hio (e2 ▸ h4)) (ne hm k1 l1 h3)
      · exact R.nod m k c1 c2 b k1 k2 l1 l2 h3 h4
/-- a cell stays as it is from now on -/
theorem RelH.freeze (R : RelH T P ι F s H) {n : Nat} {a : Addr} {c : Cell} {o : HO} (hs : s[n]? = some c) (hl : c.live = true) (hi : ι[n]? = some a) (hF : F a = none) (hH : H a = some o) : RelH T P ι (upd F a o) (s.set n .dead) H := by
  have hn := (List.getElem?_eq_some_iff.mp hs).1
  have hP := R.npr n c a hs hl hi
  have at_ : ∀ {m : Nat} {d : Cell}, (s.set n .dead)[m]? = some d → d.live = true → m ≠ n ∧ s[m]? = some d := fun {m d} h l => by
    by_cases e : n = m
    · subst e
      rw [List.getElem?_set_self hn] at h
      cases h
      cases l
    · rw [List.getElem?_set_ne e] at h
      exact ⟨fun z => e z.symm, h⟩
  have g : Grow F ι (upd F a o) ι := grow_new hF o
  refine ⟨fun b u h => ?_, R.pro, fun b u h => ?_, by simp [R.len], fun m d b h1 h2 => ?_, fun m d b h1 l h2 => R.npr m d b (at_ h1 l).2 l h2, fun m k c1 c2 b h1 h2 l1 l2 h3 h4 => R.nod m k c1 c2 b (at_ h1 l1).2 (at_ h2 l2).2 l1 l2 h3 h4⟩
  · by_cases e : b = a
    · subst e; rw [upd_same] at h; cases h; exact hH
    · rw [upd_ne e] at h; exact R.sub b u h
  · rw [upd_ne (ne_of_none h hP)]; exact R.dis b u h
  · cases hd : d.live with
    | false =>
      cases d with
      | dead => trivial
      | _ => cases hd
    | true =>
      obtain ⟨hm, h1⟩ := at_ h1 hd
      refine (R.cell m d b h1 h2).grow g (fun l => upd_ne fun z => ?_) (fun _ => rfl)
      subst z
      exact hm (R.nod m n d c b h1 hs l hl h2 hi)
theorem lc_of (R : RelH T P ι F s H) {n : Nat} {a : Addr} {xs : List D} (hs : s[n]? = some (.lst xs)) (hi : ι[n]? = some a) : F a = none ∧ ∃ vs, H a = some (.lst vs) ∧ Rps T F ι xs vs := R.cell n _ a hs hi
end
/-- [..] as a cell -/
def dLstC (f : DA) : DE := fun δ s => (f δ s).bind fun xs s1 => if xs.length ≤ lim then .ok (.loc s1.length) (s1 ++ [.lst xs]) else .stuck
section
variable {T : Tb} {X : Cx}
theorem post_loc {P : Hp} {ι : List Addr} {F : Hp} {s : Sto} {H : Hp} {Q : V → Hp → Prop} {E : Nat → Hp → Prop} {p : Addr} {o : HO} {c : Cell} (post : Post T P (Rp T) Q E F ι (.ok (.loc s.length) (s ++ [c]))) (R : RelH T P ι F s H) (hp : H p = none)
    (hc : CellAt T (ι ++ [p]) F (upd H p o) p c) : Q (.ref p) (upd H p o) := by
  refine post (.ref p) _ _ _ (grow_app _ _ p) (R.alloc hp hc) ?_
  unfold Rp
  exact ⟨p, by rw [← R.len]; simp, rfl⟩
theorem d_lstC {es : List Expr} {pos : Pos} {f : DA} (h : PDa T X es f) : PDe T X (.List es pos) (dLstC f) := fun pn xe W tk => by
  obtain ⟨t1, p1, d1⟩ := h pn xe W tk
  refine ⟨_, pe_lst p1, fun σ H P ι F δ s Q R E post => ?_⟩
  show t1 σ H _
  refine den_then d1 R E post fun x y H1 ι1 F1 s1 g1 R1 E1 r1 post1 => ?_
  split at post1
  · rename_i hl
    refine ⟨by rw [← r1.1.len]; exact lim_le hl, fun p hp => post_loc post1 R1 hp ?_⟩
    exact ⟨R1.freeF hp, _, upd_same, r1.1.mono (grow_app _ _ _)⟩
  · exact post1.elim
/-- {}, not written -/
theorem d_dct0 {pos : Pos} : PDe T X (.Dict [] [] pos) (dC (.dct [] [])) := fun pn xe W tk => ⟨_, pe_dnewK, fun σ H P ι F δ s Q R E post p hp => by
  refine post.new R hp fun g => ?_
  unfold Rp
  exact ⟨p, [], rfl, .inl upd_same, rfl, .nil⟩⟩
/-! ## x[i] = e -/
def setAt (o i d : D) (s : Sto) : Option Sto := match o, i with
  | .loc n, .int k => match s[n]? with
    | some (.lst xs) => match ixN xs.length k with
      | some j => some (s.set n (.lst (xs.set j d)))
      | none => none
    | _ => none
  | _, _ => none
def sIxS (f fo fi : DE) : DS := fun δ s => (f δ s).out δ fun d s1 => (fo δ s1).out δ fun o s2 => (fi δ s2).out δ fun i s3 => match setAt o i d s3 with
  | some s4 => .nx δ s4
  | none => .stuck
theorem s_ixS {o i e : Expr} {tpos pos : Pos} {f fo fi : DE} (he : PDe T X e f) (ho : PDe T X o fo) (hi : PDe T X i fi)
    (ha : ∀ v, assign (.Subscript o i tpos) X.env v = (do
      let ov ← holding [v] (eval o X.env)
      let iv ← holding [v, ov] (eval i X.env)
      standAt tpos
      holding [v, ov, iv] (setItem ov iv v)
      release [v, ov, iv] []) := by intro _; rfl)
    (hs : swapsWithSole [.Subscript o i tpos] e pos.line X.env = pure false := by rfl) (hw : swappedStores [.Subscript o i tpos] e X.env = pure none := by rfl)
    (h1 : (assignEach [.Subscript o i tpos] X.env).map (·.2) = [assign (.Subscript o i tpos) X.env] := by rfl) : PDs T X (.Assign [.Subscript o i tpos] e pos) (sIxS f fo fi) := fun pn xe W tk _ => by
  obtain ⟨t1, p1, d1⟩ := he pn xe W tk
  obtain ⟨t2, p2, d2⟩ := ho pn xe W tk
  obtain ⟨t3, p3, d3⟩ := hi pn xe W tk
  refine ⟨_, ps_asg (X := X.tr pn xe) p1 (pg_sub (X := X.tr pn xe) p2 p3 set_list ha) hs hw h1, fun En σ H P ι F δ s R E post => ?_⟩
  show t1 σ H _
  refine dens_then d1 R E post fun x y H1 ι1 F1 s1 g1 R1 E1 r1 post1 => ?_
  show t2 σ H1 _
  refine dens_then d2 R1 E1 post1 fun x2 y2 H2 ι2 F2 s2 g2 R2 E2 r2 post2 => ?_
  refine dens_then d3 R2 E2 post2 fun x3 y3 H3 ι3 F3 s3 g3 R3 E3 r3 post3 => ?_
  have rx := (r1.mono g2).mono g3
  have ro := r2.mono g3
  cases q : setAt x2 x3 x s3 with
  | none => rw [q] at post3; exact post3.elim
  | some s4 =>
    rw [q] at post3
    unfold setAt at q
    split at q
    · rename_i n k
      split at q
      · rename_i xs hs3
        split at q
        · rename_i j hj
          cases q
          unfold Rp at ro r3
          obtain ⟨a, e1, rfl⟩ := ro
          obtain ⟨h1, vs, h2, h3⟩ := lc_of R3 hs3 e1
          refine ⟨a, vs, k, j, rfl, r3, h2, by rw [← h3.len]; exact hj, ?_⟩
          exact post3 σ _ ι3 F3 (Grow.refl _ _) (R3.setC hs3 rfl e1 ⟨h1, _, upd_same, Rps.set rx j h3⟩) E3
        · cases q
      · cases q
    · cases q
/-! ## a slot's cell stays as it is from now on -/
def frzD (s : Sto) : D → Option (D × Sto)
  | .loc n => match s[n]? with
    | some (.lst xs) => some (.lst xs, s.set n .dead)
    | some (.dct ks xs) => some (.dct ks xs, s.set n .dead)
    | some (.obj c ns xs) => some (.obj c ns xs, s.set n .dead)
    | _ => none
  | d => some (d, s)
def sFrz (i : Nat) : DS := fun δ s => match δ[i]? with
  | some (some d) => match frzD s d with
    | some (d', s') => .nx (δ.set i (some d')) s'
    | none => .nx δ s
  | _ => .nx δ s
theorem frz_ok {P : Hp} {ι : List Addr} {F : Hp} {s s' : Sto} {H : Hp} {d d' : D} {v : V} (R : RelH T P ι F s H) (r : Rp T F ι d v) (h : frzD s d = some (d', s')) : ∃ F', Grow F ι F' ι ∧ RelH T P ι F' s' H ∧ Rp T F' ι d' v := by
  unfold frzD at h
  split at h
  · rename_i n
    unfold Rp at r
    obtain ⟨a, e1, rfl⟩ := r
    split at h
    · rename_i xs hs
      cases h
      obtain ⟨h1, vs, h2, h3⟩ := R.cell _ _ _ hs e1
      refine ⟨upd F a (.lst vs), grow_new h1 _, R.freeze hs rfl e1 h1 h2, ?_⟩
      unfold Rp
      exact ⟨a, vs, rfl, upd_same, h3.mono (grow_new h1 _)⟩
    · rename_i ks xs hs
      cases h
      obtain ⟨h1, kvs, h2, h3, h4⟩ := R.cell _ _ _ hs e1
      refine ⟨upd F a (.dK kvs), grow_new h1 _, R.freeze hs rfl e1 h1 h2, ?_⟩
      unfold Rp
      exact ⟨a, kvs, rfl, .inl upd_same, h3, h4.mono (grow_new h1 _)⟩
    · rename_i c ns xs hs
      cases h
      obtain ⟨h1, dx, fs, h2, h3, h4⟩ := R.cell _ _ _ hs e1
      refine ⟨upd F a (.ins (T.ca c) dx fs), grow_new h1 _, R.freeze hs rfl e1 h1 h2, ?_⟩
      unfold Rp
      exact ⟨a, dx, fs, rfl, upd_same, h3, h4.mono (grow_new h1 _)⟩
    · cases h
  · cases h
    exact ⟨F, Grow.refl _ _, R, r⟩
/-- ahead of the rest of a block -/
theorem b_frz {rest : List Stmt} {g : DS} (i : Nat) (h : PDb T X rest g) : PDb T X rest (sSeq (sFrz i) g) := fun pn xe W tk ow => by
  obtain ⟨t1, p1, d1⟩ := h pn xe W tk ow
  refine ⟨t1, p1, fun En σ H P ι F δ s R E post => ?_⟩
  unfold sSeq sFrz at post
  cases q : δ[i]? with
  | none => rw [q] at post; exact d1 _ _ _ _ _ _ _ _ R E post
  | some o =>
    cases o with
    | none => rw [q] at post; exact d1 _ _ _ _ _ _ _ _ R E post
    | some d =>
      rw [q] at post
      dsimp only at post
      cases hz : frzD s d with
      | none => rw [hz] at post; exact d1 _ _ _ _ _ _ _ _ R E post
      | some z =>
        obtain ⟨d', s'⟩ := z
        rw [hz] at post
        obtain ⟨v, e1, e2⟩ := E.at_ i d q
        obtain ⟨F', g', R', r'⟩ := frz_ok R e2 hz
        have E' := (E.mono g').set r' i
        have hl := (List.getElem?_eq_some_iff.mp e1).1
        have es : σ.set i (some v) = σ := by
          refine List.ext_getElem? fun j => ?_
          by_cases c : i = j
          · subst c; rw [List.getElem?_set_self hl, e1]
          · rw [List.getElem?_set_ne c]
        rw [es] at E'
        exact d1 _ _ _ _ _ _ _ _ R' E' (PostS.mono g' post)
/-! ## o.m(..) of a built-in's method -/
abbrev DM := D → List D → Sto → Res D
def recvTy (s : Sto) : D → Option String
  | .str _ => some "str"
  | .int _ => some "int"
  | .lst _ => some "list"
  | .scr _ => some "list"
  | .loc n => match s[n]? with
    | some (.lst _) => some "list"
    | some (.dct _ _) => some "dict"
    | _ => none
  | _ => none
def DenM (T : Tb) (r : V → List V → Hp → VK → Prop) (op : DM) : Prop := ∀ d ds v vs H P ι F s Q E, RelH T P ι F s H → Rp T F ι d v → Rps T F ι ds vs → Post T P (Rp T) Q E F ι (op d ds s) → r v vs H Q
def dMt (ty : String) (op : DM) (f : DE) (fa : DA) : DE := fun δ s => (f δ s).bind fun x s1 => if recvTy s1 x = some ty then (fa δ s1).bind fun xs s2 => op x xs s2 else .stuck
theorem tyV_of {P : Hp} {ι : List Addr} {F : Hp} {s : Sto} {H : Hp} {d : D} {v : V} {ty : String} (R : RelH T P ι F s H) (r : Rp T F ι d v) (h : recvTy s d = some ty) : tyV T.K ty v H := by
  unfold recvTy at h
  split at h
  · unfold Rp at r; subst r; cases h; rfl
  · unfold Rp at r; subst r; cases h; rfl
  · unfold Rp at r
    obtain ⟨a, vs, rfl, e, _⟩ := r
    cases h
    exact .inl ⟨rfl, vs, SqL.of (R.sub _ _ e)⟩
  · unfold Rp at r
    obtain ⟨a, rfl, e⟩ := r
    cases h
    exact .inl ⟨rfl, _, sql_mono R.sub e⟩
  · unfold Rp at r
    obtain ⟨a, e1, rfl⟩ := r
    split at h
    · rename_i xs hs
      cases h
      obtain ⟨_, vs, h2, _⟩ := R.cell _ _ _ hs e1
      exact .inl ⟨rfl, vs, SqL.of h2⟩
    · rename_i ks xs hs
      cases h
      obtain ⟨_, kvs, h2, _⟩ := R.cell _ _ _ hs e1
      exact .inr (.inr (.inl ⟨rfl, .inl ⟨kvs, h2⟩⟩))
    · cases h
  · cases h
theorem d_mt {o e : Expr} {es : List Expr} {name : Str} {apos cpos : Pos} {ty id : String} {r : V → List V → Hp → VK → Prop} {op : DM} {f : DE} {fa : DA} (pa : PlainAttrs ty) (slot : Slot ty name id) (hty : typeOf (.builtin id) = pure (.type "method_descriptor")) (hm : ∀ pn xe, MtR (X.tr pn xe) id r) (hr : DenM T r op)
    (ho : PDe T X o f) (ha : PDa T X (e :: es) fa) (hbase : attributeBase o name X.env (eval o X.env) = eval o X.env := by rfl)
    (hfew : ((backTo cpos (starEach (e :: es) X.env)).all (fun x => !x.1) && (backToKw cpos (keywordEach [] X.env)).all (fun x => x.1.isSome)
      && decide ((e :: es).length + ([] : List Keyword).length + (if ([] : List Keyword).isEmpty then 0 else 1) < 30)) = true := by rfl)
    (hline : (apos.endLine == cpos.line) = true := by rfl) (hs : starEach (e :: es) X.env = (false, eval e X.env) :: starEach es X.env := by rfl) (hplain : (backTo cpos (starEach es X.env)).any (·.1) = false := by rfl) (hK : X.K = T.K := by rfl) :
    PDe T X (.Call (.Attribute o name apos) (e :: es) [] cpos) (dMt ty op f fa) := fun pn xe W tk => by
  obtain ⟨t1, p1, d1⟩ := ho pn xe W tk
  obtain ⟨t2, p2, d2⟩ := ha pn xe W tk
  have hK' : (X.tr pn xe).K = T.K := hK
  refine ⟨_, pe_bm (X := X.tr pn xe) pa slot hty (hm pn xe) p1 p2 hbase hfew hline hs hplain, fun σ H P ι F δ s Q R E post => ?_⟩
  rw [hK']
  show t1 σ H _
  refine den_then d1 R E post fun x y H1 ι1 F1 s1 g1 R1 E1 r1 post1 => ?_
  split at post1
  · rename_i ht
    refine ⟨tyV_of R1 r1 ht, ?_⟩
    refine den_then d2 R1 E1 post1 fun xs ys H2 ι2 F2 s2 g2 R2 E2 r2 post2 => ?_
    exact hr _ _ _ _ _ _ _ _ _ _ _ R2 (r1.mono g2) r2.1 post2
  · exact post1.elim
theorem d_mt0 {o : Expr} {name : Str} {apos cpos : Pos} {ty id : String} {r : V → List V → Hp → VK → Prop} {op : DM} {f : DE} (pa : PlainAttrs ty) (slot : Slot ty name id) (hty : typeOf (.builtin id) = pure (.type "method_descriptor")) (hm : ∀ pn xe, MtR (X.tr pn xe) id r) (hr : DenM T r op)
    (ho : PDe T X o f) (hbase : attributeBase o name X.env (eval o X.env) = eval o X.env := by rfl) (hline : (apos.endLine == cpos.line) = true := by rfl) (hK : X.K = T.K := by rfl) :
    PDe T X (.Call (.Attribute o name apos) [] [] cpos) (dMt ty op f aNil) := fun pn xe W tk => by
  obtain ⟨t1, p1, d1⟩ := ho pn xe W tk
  have hK' : (X.tr pn xe).K = T.K := hK
  refine ⟨_, pe_bm0 (X := X.tr pn xe) pa slot hty (hm pn xe) p1 hbase hline, fun σ H P ι F δ s Q R E post => ?_⟩
  rw [hK']
  show t1 σ H _
  refine den_then d1 R E post fun x y H1 ι1 F1 s1 g1 R1 E1 r1 post1 => ?_
  split at post1
  · rename_i ht
    exact ⟨tyV_of R1 r1 ht, hr _ _ _ _ _ _ _ _ _ _ _ R1 r1 .nil post1⟩
  · exact post1.elim
end
/-! ## lists' methods -/
def mAppend : DM
  | .loc n, [d], s => match s[n]? with
    | some (.lst xs) => if xs.length < lim then .ok .non (s.set n (.lst (xs ++ [d]))) else .stuck
    | _ => .stuck
  | _, _, _ => .stuck
def mIndex : DM
  | x, [y], s => match lqOf s x with
    | some xs => if (flatD y && xs.all flatD) = true then match xs.findIdx? (fun z => eqF z y) with
      | some j => .ok (.int (j : Nat)) s
      | none => .stuck
      else .stuck
    | none => .stuck
  | _, _, _ => .stuck
def mCount : DM
  | x, [y], s => match lqOf s x with
    | some xs => if (flatD y && xs.all flatD) = true then .ok (.int (xs.countP (fun z => eqF z y) : Nat)) s else .stuck
    | none => .stuck
  | _, _, _ => .stuck
def rCntF (K : PySem.W.Frag) : V → List V → Hp → VK → Prop := fun x xs H Q => ∃ (a : Addr) (ys : List V) (y : V), x = V.ref a ∧ xs = [y] ∧ SqL K H a ys ∧ flatV y = true ∧ ys.all flatV = true ∧ Q (.int (ys.countP fun z => eqV z y : Nat)) H
theorem cnt_eq {y : V} (fy : flatV y = true) : ∀ {ys : List V} {us : List Value}, Vals ys us → ys.all flatV = true → us.countP (eqU y) = ys.countP fun z => eqV z y
  | _, _, .nil, _ => rfl
  | z :: ys, u :: us, .cons r t, f => by
    rw [List.all_cons, Bool.and_eq_true] at f
    rw [List.countP_cons, List.countP_cons, cnt_eq fy t f.2, eqU_of r f.1]
theorem mt_lcntF {X : Cx} : MtR X "list.count" (rCntF X.K) := by
  intro pins s σ H x xs v us Q I rx rxs h
  obtain ⟨a, ys, y, rfl, rfl, hs, fy, fys, q⟩ := h
  cases rx
  obtain ⟨uy, rfl, ry⟩ := rxs.one
  obtain ⟨its, rv, ⟨⟨cls, dd, data, sl⟩, n, ho, hc, hdn, hd⟩, hlen⟩ := I.list hs
  simp only at hc hd
  subst hc hd
  refine PySem.call_meets PySem.F.slot_list_count ⟨_, ho, rfl⟩ PySem.F.entry_list_count (PySem.F.args_list_count_2 _ _)
    (SeqAt.list_countAt a its.toArray n dd sl uy (eqU y)) ⟨ho, fun u hu => mem_eqAt ry fy rv fys u (by simpa using hu), ?_⟩
  have ec : its.toArray.toList.countP (eqU y) = ys.countP fun z => eqV z y := by
    rw [List.toList_toArray]; exact cnt_eq fy rv fys
  refine ⟨.int (ys.countP fun z => eqV z y : Nat), H, I.tok _, ⟨s.toks, ?_⟩, q⟩
  show Value.int ((its.toArray.toList.countP (eqU y) : Nat) : Int) s.toks = Value.int ((ys.countP fun z => eqV z y : Nat) : Int) s.toks
  rw [ec]
section
variable {T : Tb}
theorem flats_ok {F : Hp} {ι : List Addr} : ∀ {ds : List D} {vs : List V}, Rps T F ι ds vs → ds.all flatD = true → vs.all flatV = true
  | [], vs, q, _ => by unfold Rps at q; subst q; rfl
  | d :: ds, vs, q, k => by
    unfold Rps at q
    obtain ⟨u, us, rfl, q1, q2⟩ := q
    rw [List.all_cons, Bool.and_eq_true] at k
    rw [List.all_cons, flat_ok q1 k.1, flats_ok q2 k.2]; rfl
theorem cntF_ok {F : Hp} {ι : List Addr} {x : D} {v : V} (r : Rp T F ι x v) (h : flatD x = true) : ∀ {ds : List D} {vs : List V}, Rps T F ι ds vs → ds.all flatD = true → (vs.countP fun z => eqV z v) = ds.countP fun z => eqF z x
  | [], vs, q, _ => by unfold Rps at q; subst q; rfl
  | d :: ds, vs, q, k => by
    unfold Rps at q
    obtain ⟨u, us, rfl, q1, q2⟩ := q
    rw [List.all_cons, Bool.and_eq_true] at k
    rw [List.countP_cons, List.countP_cons, cntF_ok r h q2 k.2, eqF_ok q1 r k.1 h]
theorem dm_append : DenM T rAppend mAppend := by
  intro d ds v vs H P ι F s Q E R r rs post
  unfold mAppend at post
  split at post
  · rename_i n d' _
    obtain ⟨u, rfl, h1⟩ := rps1 rs
    unfold Rp at r
    obtain ⟨a, e1, rfl⟩ := r
    split at post
    · rename_i xs hs
      split at post
      · rename_i hl
        obtain ⟨h2, us, h3, h4⟩ := lc_of R hs e1
        refine ⟨a, us, u, rfl, rfl, h3, by rw [← h4.len]; exact lim_lt (Nat.le_of_lt hl), ?_⟩
        exact post .non _ ι F (Grow.refl _ _) (R.setC hs rfl e1 ⟨h2, _, upd_same, h4.app (.cons h1 .nil)⟩) (by unfold Rp; rfl)
      · exact post.elim
    · exact post.elim
  · exact post.elim
theorem dm_index : DenM T (rIndex T.K) mIndex := by
  intro d ds v vs H P ι F s Q E R r rs post
  unfold mIndex at post
  split at post
  · obtain ⟨u, rfl, h1⟩ := rps1 rs
    split at post
    · rename_i xs h
      obtain ⟨a, us, rfl, h2, h3⟩ := lq_of R r h
      split at post
      · rename_i hf
        simp only [Bool.and_eq_true] at hf
        split at post
        · rename_i j hj
          rw [List.findIdx?_eq_some_iff_getElem] at hj
          obtain ⟨hj1, hj2, hj3⟩ := hj
          have hd : xs[j]? = some xs[j] := List.getElem?_eq_getElem hj1
          obtain ⟨w, e1, e2⟩ := h3.get hd
          have fd : ∀ {m : Nat} (hm : m < xs.length), flatD xs[m] = true := fun {m} hm => List.all_eq_true.mp hf.2 _ (List.getElem_mem hm)
          refine ⟨a, us, u, j, w, rfl, rfl, h2, flat_ok h1 hf.1, flats_ok h3 hf.2, e1, by rw [eqF_ok e2 h1 (fd hj1) hf.1]; exact hj2, fun m z' hm hz => ?_, post.here R (by unfold Rp; rfl)⟩
          have hm' : m < xs.length := by omega
          obtain ⟨w2, e3, e4⟩ := h3.get (List.getElem?_eq_getElem hm')
          rw [hz] at e3
          cases e3
          rw [eqF_ok e4 h1 (fd hm') hf.1]
          have := hj3 m hm
          simpa using this
        · exact post.elim
      · exact post.elim
    · exact post.elim
  · exact post.elim
theorem dm_count : DenM T (rCntF T.K) mCount := by
  intro d ds v vs H P ι F s Q E R r rs post
  unfold mCount at post
  split at post
  · obtain ⟨u, rfl, h1⟩ := rps1 rs
    split at post
    · rename_i xs h
      obtain ⟨a, us, rfl, h2, h3⟩ := lq_of R r h
      split at post
      · rename_i hf
        simp only [Bool.and_eq_true] at hf
        refine ⟨a, us, u, rfl, rfl, h2, flat_ok h1 hf.1, flats_ok h3 hf.2, ?_⟩
        rw [cntF_ok h1 hf.1 h3 hf.2]
        exact post.here R (by unfold Rp; rfl)
      · exact post.elim
    · exact post.elim
  · exact post.elim
/-! ## texts' methods -/
def un (x : Str) : List Nat := x.cps.toList
theorem S_un (x : Str) : S (un x) = x := by
  obtain ⟨a⟩ := x
  simp [S, un]
/-- of a text and a whole number, of a text and a text, of a text alone -/
def mTxtI (c : List Nat → Int → Bool) (g : Str → Int → Str) : DM
  | .str a, [.int i], s => if c a i = true then .ok (.str (un (g (S a) i))) s else .stuck
  | _, _, _ => .stuck
def mZfill : DM := mTxtI (fun _ i => PadOk i) Txt.zfill
theorem dm_zfill : DenM T (fun x xs H Q => ∃ (a : Str) (i : Int), x = .str a ∧ xs = [.int i] ∧ PadOk i = true ∧ Q (.str (Txt.zfill a i)) H) mZfill := by
  intro d ds v vs H P ι F s Q E R r rs post
  unfold mZfill mTxtI at post
  split at post
  · obtain ⟨u, rfl, h1⟩ := rps1 rs
    unfold Rp at r h1
    split at post
    · rename_i hp
      exact ⟨_, _, r, by rw [h1], hp, post.here R (by unfold Rp; rw [S_un])⟩
    · exact post.elim
  · exact post.elim
/-- text.index(text) -/
def mSIndex : DM
  | .str a, [.str b], s => match Builtin.Str.occurrences (S a) (S b) 0 (S a).length 1 with
    | i :: _ => .ok (.int (i : Nat)) s
    | [] => .stuck
  | _, _, _ => .stuck
theorem dm_sindex : DenM T (fun x xs H Q => ∃ a b i rest, x = .str a ∧ xs = [.str b] ∧ Builtin.Str.occurrences a b 0 a.length 1 = i :: rest ∧ Q (.int (i : Nat)) H) mSIndex := by
  intro d ds v vs H P ι F s Q E R r rs post
  unfold mSIndex at post
  split at post
  · obtain ⟨u, rfl, h1⟩ := rps1 rs
    unfold Rp at r h1
    split at post
    · rename_i i rest ho
      exact ⟨_, _, i, rest, r, by rw [h1], ho, post.here R (by unfold Rp; rfl)⟩
    · exact post.elim
  · exact post.elim
def mFind : DM
  | .str a, [.str b], s => .ok (.int (Txt.find (S a) (S b))) s
  | _, _, _ => .stuck
theorem dm_find : DenM T (fun x xs H Q => ∃ a b, x = .str a ∧ xs = [.str b] ∧ Q (.int (Txt.find a b)) H) mFind := by
  intro d ds v vs H P ι F s Q E R r rs post
  unfold mFind at post
  split at post
  · obtain ⟨u, rfl, h1⟩ := rps1 rs
    unfold Rp at r h1
    exact ⟨_, _, r, by rw [h1], post.here R (by unfold Rp; rfl)⟩
  · exact post.elim
def mStarts : DM
  | .str a, [.str b], s => .ok (.bl (Txt.startswith (S a) (S b))) s
  | _, _, _ => .stuck
theorem dm_starts : DenM T (fun x xs H Q => ∃ a b, x = .str a ∧ xs = [.str b] ∧ Q (.bl (Txt.startswith a b)) H) mStarts := by
  intro d ds v vs H P ι F s Q E R r rs post
  unfold mStarts at post
  split at post
  · obtain ⟨u, rfl, h1⟩ := rps1 rs
    unfold Rp at r h1
    exact ⟨_, _, r, by rw [h1], post.here R (by unfold Rp; rfl)⟩
  · exact post.elim
def mPart : DM
  | .str a, [.str b], s => if (!(b.length == 0) && decide (a.length ≤ lim)) = true then .ok (.tup [.str (un (Txt.partition (S a) (S b)).1), .str (un (Txt.partition (S a) (S b)).2.1), .str (un (Txt.partition (S a) (S b)).2.2)]) s else .stuck
  | _, _, _ => .stuck
theorem dm_part : DenM T (fun x xs H Q => ∃ a b, x = .str a ∧ xs = [.str b] ∧ (b.length == 0) = false ∧ a.length ≤ sizeLine ∧
    ∀ p, H p = none → Q (.ref p) (upd H p (.tup [.str (Txt.partition a b).1, .str (Txt.partition a b).2.1, .str (Txt.partition a b).2.2]))) mPart := by
  intro d ds v vs H P ι F s Q E R r rs post
  unfold mPart at post
  split at post
  · obtain ⟨u, rfl, h1⟩ := rps1 rs
    unfold Rp at r h1
    split at post
    · rename_i hc
      simp only [Bool.and_eq_true, Bool.not_eq_true', decide_eq_true_eq] at hc
      refine ⟨_, _, r, by rw [h1], by rw [S_len]; exact hc.1, by rw [S_len]; exact lim_le hc.2, fun p hp => ?_⟩
      refine post.new R hp fun g => ?_
      unfold Rp
      refine ⟨p, _, rfl, upd_same, .cons ?_ (.cons ?_ (.cons ?_ .nil))⟩ <;> (unfold Rp; rw [S_un])
    · exact post.elim
  · exact post.elim
def mRepl : DM
  | .str a, [.str b, .str c], s => .stuck
  | _, _, _ => .stuck
def strsOf : List D → Option (List (List Nat))
  | [] => some []
  | .str x :: r => (strsOf r).map (x :: ·)
  | _ => none
theorem strs_ok {F : Hp} {ι : List Addr} : ∀ {ds : List D} {vs : List V} {ys : List (List Nat)}, Rps T F ι ds vs → strsOf ds = some ys → vs = (ys.map S).map V.str
  | [], vs, ys, r, e => by unfold Rps at r; subst r; cases e; rfl
  | d :: ds, vs, ys, r, e => by
    unfold Rps at r
    obtain ⟨v, us, rfl, h1, h2⟩ := r
    cases d with
    | str x =>
      have e' : (strsOf ds).map (x :: ·) = some ys := e
      cases q : strsOf ds with
      | none => rw [q] at e'; cases e'
      | some cs =>
        rw [q] at e'
        cases e'
        unfold Rp at h1
        rw [h1, strs_ok h2 q]
        rfl
    | _ => cases e
def mJoin : DM
  | .str a, [x], s => match (lqOf s x).or (tpOf x) with
    | some xs => match strsOf xs with
      | some ys => if (ys.map List.length).sum + ys.length * a.length ≤ lim then .ok (.str (un (Txt.join (S a) (ys.map S)))) s else .stuck
      | none => .stuck
    | none => .stuck
  | _, _, _ => .stuck
theorem dm_join : DenM T (fun x xs H Q => ∃ a p, ∃ ys : List Str, x = .str a ∧ xs = [.ref p] ∧ (SqL T.K H p (ys.map V.str) ∨ SqT T.K H p (ys.map V.str)) ∧
    (ys.map (·.length)).sum + ys.length * a.length ≤ 16777216 ∧ Q (.str (Txt.join a ys)) H) mJoin := by
  intro d ds v vs H P ι F s Q E R r rs post
  unfold mJoin at post
  split at post
  · obtain ⟨u, rfl, h1⟩ := rps1 rs
    unfold Rp at r
    split at post
    · rename_i xs h
      split at post
      · rename_i ys hy
        split at post
        · rename_i hl
          obtain ⟨a, us, rfl, h2, h3⟩ := lqtp_of R h1 h
          rw [strs_ok h3 hy] at h2
          refine ⟨_, a, ys.map S, r, rfl, h2, ?_, post.here R (by unfold Rp; rw [S_un])⟩
          have e1 : ((ys.map S).map (·.length)) = ys.map List.length := by
            rw [List.map_map]
            exact List.map_congr_left fun y _ => S_len y
          rw [e1, List.length_map, S_len]
          exact Nat.le_trans hl (by unfold lim; decide)
        · exact post.elim
      · exact post.elim
    · exact post.elim
  · exact post.elim
theorem rps_strs {F : Hp} {ι : List Addr} : ∀ (ys : List Str), Rps T F ι (ys.map fun y => D.str (un y)) (ys.map V.str)
  | [] => .nil
  | y :: ys => .cons (by unfold Rp; rw [S_un]) (rps_strs ys)
def mSplit : DM
  | .str a, [.str b], s => if (!(b.length == 0) && decide (a.length + 2 ≤ lim)) = true then .ok (.lst ((Txt.split (S a) (S b)).map fun y => D.str (un y))) s else .stuck
  | .str a, [], s => if a.length + 2 ≤ lim then .ok (.lst ((Txt.words (S a)).map fun y => D.str (un y))) s else .stuck
  | _, _, _ => .stuck
theorem new_strs {P : Hp} {ι : List Addr} {F : Hp} {s : Sto} {H : Hp} {Q : VK} {E : Nat → Hp → Prop} {ys : List Str} (R : RelH T P ι F s H) (post : Post T P (Rp T) Q E F ι (.ok (.lst (ys.map fun y => D.str (un y))) s)) : rNewStrs ys H Q := fun p hp => by
  refine post.new R hp fun g => ?_
  unfold Rp
  exact ⟨p, _, rfl, upd_same, rps_strs ys⟩
theorem dm_split : DenM T (fun x xs H Q => ∃ a b, x = .str a ∧ xs = [.str b] ∧ (b.length == 0) = false ∧ a.length + 2 ≤ sizeLine ∧ rNewStrs (Txt.split a b) H Q) (fun x ds s => match ds with | [] => .stuck | _ => mSplit x ds s) := by
  intro d ds v vs H P ι F s Q E R r rs post
  dsimp only at post
  split at post
  · exact post.elim
  · unfold mSplit at post
    split at post
    · obtain ⟨u, rfl, h1⟩ := rps1 rs
      unfold Rp at r h1
      split at post
      · rename_i hc
        simp only [Bool.and_eq_true, Bool.not_eq_true', decide_eq_true_eq] at hc
        exact ⟨_, _, r, by rw [h1], by rw [S_len]; exact hc.1, by rw [S_len]; exact lim_le hc.2, new_strs R post⟩
      · exact post.elim
    · rename_i hne
      exact absurd rfl hne
    · exact post.elim
theorem dm_words : DenM T (fun x xs H Q => ∃ a, x = .str a ∧ xs = [] ∧ a.length + 2 ≤ sizeLine ∧ rNewStrs (Txt.words a) H Q) (fun x ds s => match ds with | [] => mSplit x [] s | _ => .stuck) := by
  intro d ds v vs H P ι F s Q E R r rs post
  dsimp only at post
  split at post
  · unfold mSplit at post
    split at post
    · rename_i h
      cases h
    · unfold Rps at rs
      unfold Rp at r
      split at post
      · rename_i hc
        exact ⟨_, r, rs, by rw [S_len]; exact lim_le hc, new_strs R post⟩
      · exact post.elim
    · exact post.elim
  · exact post.elim
def mStrip : DM
  | .str a, [], s => if a.length ≤ lim then .ok (.str (un (Txt.strip (S a)))) s else .stuck
  | _, _, _ => .stuck
theorem dm_strip : DenM T (fun x xs H Q => ∃ a, x = .str a ∧ xs = [] ∧ a.length ≤ sizeLine ∧ Q (.str (Txt.strip a)) H) mStrip := by
  intro d ds v vs H P ι F s Q E R r rs post
  unfold mStrip at post
  split at post
  · unfold Rps at rs
    unfold Rp at r
    split at post
    · rename_i hc
      exact ⟨_, r, rs, by rw [S_len]; exact lim_le hc, post.here R (by unfold Rp; rw [S_un])⟩
    · exact post.elim
  · exact post.elim
/-! ## int, str, divmod -/
def bInt : DB
  | [.int i], s => .ok (.int i) s
  | [.bl b], s => .ok (.int (if b then 1 else 0)) s
  | [.str z], s => match PySem.intText? (S z) with
    | some n => if z.length ≤ 640 then .ok (.int n) s else .stuck
    | none => .stuck
  | _, _ => .stuck
def rIntA : List V → Hp → VK → Prop := fun xs H Q => ((∃ i, xs = [.int i] ∧ Q (.int i) H) ∨ ∃ k, xs = [.bl k] ∧ Q (.int (if k then 1 else 0)) H) ∨ (∃ a n, xs = [.str a] ∧ PySem.intText? a = some n ∧ a.length ≤ 640 ∧ Q (.int n) H)
theorem call_intA {X : Cx} : CallR X (.type "int") rIntA := CallR.or call_int1 call_int_str
theorem db_int : DenB T rIntA bInt := by
  intro ds vs H P ι F s Q E R r post
  unfold bInt at post
  split at post
  · obtain ⟨v, rfl, h1⟩ := rps1 r
    unfold Rp at h1
    exact .inl (.inl ⟨_, by rw [h1], post.here R (by unfold Rp; rfl)⟩)
  · obtain ⟨v, rfl, h1⟩ := rps1 r
    unfold Rp at h1
    exact .inl (.inr ⟨_, by rw [h1], post.here R (by unfold Rp; rfl)⟩)
  · obtain ⟨v, rfl, h1⟩ := rps1 r
    unfold Rp at h1
    split at post
    · rename_i n hn
      split at post
      · rename_i hl
        exact .inr ⟨_, _, by rw [h1], hn, by rw [S_len]; exact hl, post.here R (by unfold Rp; rfl)⟩
      · exact post.elim
    · exact post.elim
  · exact post.elim
def strI (i : Int) : List Nat := un (toString i : Str)
def bStr : DB
  | [.int i], s => if i.natAbs.log2 < 1920 then .ok (.str (strI i)) s else .stuck
  | _, _ => .stuck
theorem db_str : DenB T (fun xs H Q => ∃ i, xs = [.int i] ∧ i.natAbs.log2 < 1920 ∧ Q (.str (toString i)) H) bStr := by
  intro ds vs H P ι F s Q E R r post
  unfold bStr at post
  split at post
  · obtain ⟨v, rfl, h1⟩ := rps1 r
    unfold Rp at h1
    split at post
    · rename_i hl
      exact ⟨_, by rw [h1], hl, post.here R (by unfold Rp strI; rw [S_un])⟩
    · exact post.elim
  · exact post.elim
def bDivmod : DB
  | [.int i, .int j], s => if (decide (0 < j) && decide (j < 1073741824)) = true then .ok (.tup [.int (i / j), .int (i % j)]) s else .stuck
  | _, _ => .stuck
theorem db_divmod : DenB T (fun xs H Q => ∃ i j, xs = [.int i, .int j] ∧ CDiv i j ∧ ∀ p, H p = none → Q (.ref p) (upd H p (.tup [.int (i / j), .int (i % j)]))) bDivmod := by
  intro ds vs H P ι F s Q E R r post
  unfold bDivmod at post
  split at post
  · obtain ⟨v, u, rfl, h1, h2⟩ := rps2 r
    unfold Rp at h1 h2
    split at post
    · rename_i hc
      simp only [Bool.and_eq_true, decide_eq_true_eq] at hc
      refine ⟨_, _, by rw [h1, h2], hc, fun p hp => ?_⟩
      refine post.new R hp fun g => ?_
      unfold Rp
      exact ⟨p, _, rfl, upd_same, .cons (by unfold Rp; rfl) (.cons (by unfold Rp; rfl) .nil)⟩
    · exact post.elim
  · exact post.elim
/-! ## over a text -/
theorem walks_str {F : Hp} {ι : List Addr} (z : List Nat) : Walks T (Its (S z)) (z.map fun c => D.str [c]) F ι := by
  have w := walk_str (z := S z)
  unfold Walks
  have e0 : (S z).cps.size = z.length := by simp [S]
  rw [e0] at w
  rw [List.length_map]
  refine w.mono (fun H hF => trivial) fun i H x H' hi hF y => ?_
  obtain ⟨e1, c, e2, e3⟩ := y
  have e4 : z[i]? = some c := by simpa [S] using e2
  exact ⟨.str [c], by rw [List.getElem?_map, e4]; rfl, .inl ⟨e1, by unfold Rp; rw [e3]; rfl⟩⟩
/-- a list, a tuple, a text that stays -/
def itAny (f : DE) : DIt := fun δ s => (f δ s).bind fun x s1 => match x with
  | .lst xs => .ok xs s1
  | .scr ns => .ok (ns.map D.int) s1
  | .tup xs => .ok xs s1
  | .str z => .ok (z.map fun c => D.str [c]) s1
  | _ => .stuck
theorem den_iS {W : WX} {t : TE} {f : DE} (h : DenG T (Rp T) W t f) {σ : L2.St} {H P : Hp} {ι : List Addr} {F : Hp} {δ : Env} {s : Sto} {Q : It → Hp → Prop} (R : RelH T P ι F s H) (E : REnv T F ι δ σ)
    (post : Post T P (fun F ι ds J => Walks T J ds F ι) Q (fun c H' => W (.ref (T.ca c)) none σ H') F ι ((f δ s).bind fun x s1 => match x with
      | .str z => .ok (z.map fun c => D.str [c]) s1
      | _ => .stuck)) : iStr t σ H Q := by
  show t σ H _
  refine den_then h R E post fun x y H1 ι1 F1 s1 g R1 E1 r1 post1 => ?_
  cases x with
  | str z =>
    unfold Rp at r1
    exact ⟨S z, r1, post1.here R1 (walks_str z)⟩
  | _ => exact post1.elim
theorem i_any {X : Cx} {tg e : Expr} {f : DE} (h : PDe T X e f) (hK : X.K = T.K := by rfl) : PDi T X tg e (itAny f) := fun pn xe W tk => by
  obtain ⟨t1, p1, d1⟩ := h pn xe W tk
  have hK' : (X.tr pn xe).K = T.K := hK
  refine ⟨_, PI.or (PI.or (pi_list p1) (pi_tup p1)) (pi_str p1), fun σ H P ι F δ s Q R E post => ?_⟩
  rw [hK']
  unfold itAny at post
  cases e : f δ s with
  | ok x s1 =>
    rw [e] at post
    cases x with
    | lst xs => exact .inl (.inl (den_iL d1 R E (by rw [e]; exact post)))
    | scr ns => exact .inl (.inl (den_iL d1 R E (by rw [e]; exact post)))
    | tup xs => exact .inl (.inr (den_iT d1 R E (by rw [e]; exact post)))
    | str z => exact .inr (den_iS d1 R E (by rw [e]; exact post))
    | _ => exact post.elim
  | exc c s1 => rw [e] at post; exact .inl (.inl (den_iL d1 R E (by rw [e]; exact post)))
  | stuck => rw [e] at post; exact post.elim
/-! ## in, of lists, tuples and texts -/
def oInA (neg : Bool) : DOp
  | .str [c], .str z, s => .ok (.bl (neg != decide (c ∈ z))) s
  | x, y, s => oIn neg x y s
theorem do_inA : DenOp T (orR rInS (rIn T.K false)) (oInA false) := by
  intro x y dx dy H P ι F s Q E R rx ry post
  unfold oInA at post
  split at post
  · exact .inl (do_inS x y _ _ H P ι F s Q E R rx ry post)
  · exact .inr (do_in x y _ _ H P ι F s Q E R rx ry post)
theorem do_notInA : DenOp T (orR rNotInS (rIn T.K true)) (oInA true) := by
  intro x y dx dy H P ι F s Q E R rx ry post
  unfold oInA at post
  split at post
  · exact .inl (do_notInS x y _ _ H P ι F s Q E R rx ry post)
  · exact .inr (do_in x y _ _ H P ι F s Q E R rx ry post)
theorem op_inA {X : Cx} : OpR X (compareOp .In) (orR rInS (rIn X.K false)) := OpR.or op_in_sign op_in_seq
theorem op_notInA {X : Cx} : OpR X (compareOp .NotIn) (orR rNotInS (rIn X.K true)) := OpR.or op_notIn_sign op_notIn_seq
/-! ## f-strings of texts and whole numbers -/
def dFmt (f : DE) : DE := fun δ s => (f δ s).bind fun x s1 => match x with
  | .str z => if z.length ≤ lim then .ok (.str z) s1 else .stuck
  | .int i => if i.natAbs.log2 < 1920 then .ok (.str (strI i)) s1 else .stuck
  | _ => .stuck
def dJs : List DE → List Nat → DE
  | [], acc, _, s => .ok (.str acc) s
  | f :: fs, acc, δ, s => (f δ s).bind fun x s1 => match x with
    | .str z => if (acc ++ z).length ≤ lim then dJs fs (acc ++ z) δ s1 else .stuck
    | _ => .stuck
section
variable {X : Cx}
theorem d_fmt {e : Expr} {pos : Pos} {f : DE} (h : PDe T X e f) : PDe T X (.FormattedValue e (-1) none pos) (dFmt f) := fun pn xe W tk => by
  obtain ⟨t1, p1, d1⟩ := h pn xe W tk
  refine ⟨_, pe_fmt p1, fun σ H P ι F δ s Q R E post => ?_⟩
  show t1 σ H _
  refine den_then d1 R E post fun x y H1 ι1 F1 s1 g1 R1 E1 r1 post1 => ?_
  split at post1
  · split at post1
    · rename_i hl
      unfold Rp at r1
      exact .inl ⟨_, r1, by rw [S_len]; exact lim_le hl, post1.here R1 (by unfold Rp; rfl)⟩
    · exact post1.elim
  · split at post1
    · rename_i hl
      unfold Rp at r1
      exact .inr ⟨_, r1, hl, post1.here R1 (by unfold Rp strI; rw [S_un])⟩
    · exact post1.elim
  · exact post1.elim
inductive PDj (T : Tb) (X : Cx) : List Expr → List DE → Prop where
  | nil : PDj T X [] []
  | cons {e : Expr} {f : DE} {es : List Expr} {fs : List DE} (h : PDe T X e f) (r : PDj T X es fs) : PDj T X (e :: es) (f :: fs)
def DenJ (T : Tb) (W : WX) (ts : List TE) (fs : List DE) : Prop := ∀ acc σ H P ι F δ s (Q : V → Hp → Prop), RelH T P ι F s H → REnv T F ι δ σ → Post T P (Rp T) Q (fun c H' => W (.ref (T.ca c)) none σ H') F ι (dJs fs acc δ s) → tJs ts (S acc) σ H fun out H' => Q (.str out) H'
theorem pj_of {es : List Expr} {fs : List DE} (h : PDj T X es fs) : ∀ pn xe W, Takes (X.tr pn xe) W → ∃ ts, PJ (X.tr pn xe) es ts ∧ DenJ T W ts fs := by
  induction h with
  | nil => exact fun pn xe W tk => ⟨_, .nil, fun acc σ H P ι F δ s Q R E post => post.here R (by unfold Rp; rfl)⟩
  | cons h r ih =>
    intro pn xe W tk
    obtain ⟨t1, p1, d1⟩ := h pn xe W tk
    obtain ⟨ts, p2, d2⟩ := ih pn xe W tk
    refine ⟨_, .cons p1 p2, fun acc σ H P ι F δ s Q R E post => ?_⟩
    unfold dJs at post
    show t1 σ H _
    refine den_then d1 R E post fun x y H1 ι1 F1 s1 g1 R1 E1 r1 post1 => ?_
    split at post1
    · split at post1
      · rename_i z hl
        unfold Rp at r1
        refine ⟨_, r1, by rw [S_cat, S_len]; exact lim_le hl, ?_⟩
        rw [S_cat]
        exact d2 _ _ _ _ _ _ _ _ _ R1 E1 post1
      · exact post1.elim
    · exact post1.elim
theorem d_joined {v1 v2 : Expr} {rest : List Expr} {pos : Pos} {fs : List DE} (h : PDj T X (v1 :: v2 :: rest) fs) : PDe T X (.JoinedStr (v1 :: v2 :: rest) pos) (dJs fs []) := fun pn xe W tk => by
  obtain ⟨ts, p, d⟩ := pj_of h pn xe W tk
  refine ⟨_, pe_joined p, fun σ H P ι F δ s Q R E post => ?_⟩
  exact d [] _ _ _ _ _ _ _ _ R E post
theorem d_joined1 {e : Expr} {pos : Pos} {f : DE} (h : PDe T X e f) : PDe T X (.JoinedStr [e] pos) f := fun pn xe W tk => by
  obtain ⟨t1, p1, d1⟩ := h pn xe W tk
  exact ⟨_, pe_joined1 p1, d1⟩
end
end
end Mp
/-! # MpI -/
namespace Mp
open PySem PySem.Spec L2
/-! ## text.replace of written texts, behind a first item that gives out a token -/
/-- a token is out behind it -/
def PEk (X : Cx) (e : Expr) (t : TE) : Prop := ∀ (pins : List (Addr × Obj)) (s : Shared) (σ : L2.St) (H : Hp) (Q : VK), Inv X pins σ H s → t σ H Q → wpAny (model X.prog X.w) X.A (eval e X.env) (fun v s1 => 1 ≤ s1.toks ∧ EP X pins σ Q v s1) X.xe s
theorem pek_str {X : Cx} {x : Str} {j : Nat} {pos : Pos} : PEk X (.Constant (.str x) j pos) (tC (.str x)) := fun pins s σ H Q I h => Calls.Constant_str ⟨by show 1 ≤ s.toks + 1; omega, .str x, H, I.tok _, ⟨_, rfl⟩, h⟩
theorem pek_op {X : Cx} {a b : Expr} {op : Operator} {r : R2} {ta tb : TE} {pos : Pos} (ho : OpR X (binaryOp op) r) (ha : PEk X a ta) (hb : PE X b tb) : PEk X (.BinOp a op b pos) (tOp r ta tb) := by
  intro pins s σ H Q I h
  refine wpAny_BinOp (thn (ha pins s σ H _ I h) fun v s1 q => ?_)
  obtain ⟨h1, x, H1, I1, r1, q1⟩ := q
  refine wpAny_mono (PySem.wpAny_toks (hb.run pins s1 σ H1 _ I1 q1)) (fun u s2 q => ?_) fun _ _ z => z.2
  obtain ⟨hk, y, H2, I2, r2, q2⟩ := q
  refine wpAny_mono (PySem.wpAny_toks (ho pins s2 σ H2 x y v u Q I2 r1 r2 q2)) (fun w s3 q => ?_) fun _ _ z => z.2
  exact ⟨Nat.le_trans h1 (Nat.le_trans hk q.1), q.2⟩
theorem pa_tok {X : Cx} {e : Expr} {es : List Expr} {te : TE} {ta : TA} (ha : PEk X e te) (hr : PAT X es ta) (hs : starEach (e :: es) X.env = (false, eval e X.env) :: starEach es X.env := by rfl) : PA X (e :: es) (tCons te ta) := by
  refine ⟨fun pos pins s σ H Q I h => ?_⟩
  rw [hs]
  show wpAny _ _ (spliced ((false, eval e X.env) :: backTo pos (starEach es X.env))) _ _ s
  refine Calls.spliced_cons (thn (ha pins s σ H _ I h) fun v s1 q => ?_)
  obtain ⟨h0, x, H1, I1, r1, q1⟩ := q
  exact thn (hr pos pins s1 σ H1 _ h0 I1 q1) fun us s2 ⟨xs, H2, I2, r2, q2⟩ => ⟨x :: xs, H2, I2, .cons r1 r2, q2⟩
def PDk (T : Tb) (X : Cx) (e : Expr) (f : DE) : Prop := ∀ pn xe W, Takes (X.tr pn xe) W → ∃ t, PEk (X.tr pn xe) e t ∧ DenG T (Rp T) W t f
def PDeT (T : Tb) (X : Cx) (e : Expr) (f : DE) : Prop := ∀ pn xe W, Takes (X.tr pn xe) W → ∃ t, PET (X.tr pn xe) e t ∧ DenG T (Rp T) W t f
def PDaT (T : Tb) (X : Cx) (es : List Expr) (f : DA) : Prop := ∀ pn xe W, Takes (X.tr pn xe) W → ∃ t, PAT (X.tr pn xe) es t ∧ DenG T (RpsN T es.length) W t f
def dRepl (y z : Str) (f : DE) : DE := fun δ s => (f δ s).bind fun x s1 => match x with
  | .str a => if a.length + (a.length + 1) * z.length ≤ lim then .ok (.str (un (Txt.replace (S a) y z))) s1 else .stuck
  | _ => .stuck
section
variable {T : Tb} {X : Cx}
theorem k_str {x : Str} {j pos} (cs : List Nat) (h : x = S cs) : PDk T X (.Constant (.str x) j pos) (dC (.str cs)) := fun pn xe W _ => ⟨_, pek_str, den_c fun _ _ => by unfold Rp; rw [h]⟩
theorem k_op {a b : Expr} {pos : Pos} {op : Operator} {r : R2} {o : DOp} {fa fb : DE} (hr : ∀ pn xe, OpR (X.tr pn xe) (binaryOp op) r) (ho : DenOp T r o) (ha : PDk T X a fa) (hb : PDe T X b fb) : PDk T X (.BinOp a op b pos) (dOp o fa fb) := fun pn xe W tk => by
  obtain ⟨t1, p1, d1⟩ := ha pn xe W tk
  obtain ⟨t2, p2, d2⟩ := hb pn xe W tk
  exact ⟨_, pek_op (hr pn xe) p1 p2, den_op ho d1 d2⟩
theorem eT_of {e : Expr} {f : DE} (h : PDe T X e f) : PDeT T X e f := fun pn xe W tk => by
  obtain ⟨t1, p1, d1⟩ := h pn xe W tk
  exact ⟨t1, CwR.PET.of p1, d1⟩
theorem eT_repl {o : Expr} {y z : Str} {j k : Nat} {c0 c1 apos pos : Pos} {f : DE} (ho : PDe T X o f) (hyz : (y == z) = false := by decide)
    (hst : starEach [.Constant (.str y) j c0, .Constant (.str z) k c1] X.env = [(false, eval (.Constant (.str y) j c0) X.env), (false, eval (.Constant (.str z) k c1) X.env)] := by rfl)
    (hbase : attributeBase o "replace" X.env (eval o X.env) = eval o X.env := by rfl) (hline : (apos.endLine == pos.line) = true := by rfl) :
    PDeT T X (.Call (.Attribute o "replace" apos) [.Constant (.str y) j c0, .Constant (.str z) k c1] [] pos) (dRepl y z f) := fun pn xe W tk => by
  obtain ⟨t1, p1, d1⟩ := ho pn xe W tk
  refine ⟨_, CwR.pet_replC (X := X.tr pn xe) p1 hyz hst hbase hline, fun σ H P ι F δ s Q R E post => ?_⟩
  show t1 σ H _
  refine den_then d1 R E post fun x y1 H1 ι1 F1 s1 g1 R1 E1 r1 post1 => ?_
  split at post1
  · split at post1
    · rename_i hl
      unfold Rp at r1
      exact ⟨_, r1, by rw [S_len]; exact Nat.le_trans hl (by unfold lim; decide), post1.here R1 (by unfold Rp; rw [S_un])⟩
    · exact post1.elim
  · exact post1.elim
theorem aT_nil : PDaT T X [] aNil := fun pn xe W _ => ⟨_, pat_nil, fun _ _ _ _ _ _ _ _ R _ post => post.here R ⟨.nil, rfl⟩⟩
theorem den_cons {W : WX} {n : Nat} {t1 : TE} {t2 : TA} {f : DE} {g : DA} (d1 : DenG T (Rp T) W t1 f) (d2 : DenG T (RpsN T n) W t2 g) : DenG T (RpsN T (n + 1)) W (tCons t1 t2) (aCons f g) := fun σ H P ι F δ s Q R E post => by
  show t1 σ H _
  refine den_then d1 R E post fun x y H1 ι1 F1 s1 g1 R1 E1 r1 post1 => ?_
  refine den_then d2 R1 E1 post1 fun xs ys H2 ι2 F2 s2 g2 R2 E2 r2 post2 => ?_
  exact post2.here R2 ⟨.cons (r1.mono g2) r2.1, congrArg Nat.succ r2.2⟩
theorem aT_cons {e : Expr} {es : List Expr} {f : DE} {g : DA} (he : PDeT T X e f) (hr : PDaT T X es g) (hs : starEach (e :: es) X.env = (false, eval e X.env) :: starEach es X.env := by rfl) : PDaT T X (e :: es) (aCons f g) := fun pn xe W tk => by
  obtain ⟨t1, p1, d1⟩ := he pn xe W tk
  obtain ⟨t2, p2, d2⟩ := hr pn xe W tk
  exact ⟨_, pat_cons (X := X.tr pn xe) p1 p2 hs, den_cons d1 d2⟩
theorem a_tok {e : Expr} {es : List Expr} {f : DE} {g : DA} (he : PDk T X e f) (hr : PDaT T X es g) (hs : starEach (e :: es) X.env = (false, eval e X.env) :: starEach es X.env := by rfl) : PDa T X (e :: es) (aCons f g) := fun pn xe W tk => by
  obtain ⟨t1, p1, d1⟩ := he pn xe W tk
  obtain ⟨t2, p2, d2⟩ := hr pn xe W tk
  exact ⟨_, pa_tok (X := X.tr pn xe) p1 p2 hs, den_cons d1 d2⟩
end
/-! ## a list, so many times -/
def oMulA : DOp
  | .int a, .int b, s => if cMul a b = true then .ok (.int (a * b)) s else .stuck
  | x, .int k, s => match lsOf s x with
    | some xs => if xs.length * k.toNat ≤ lim ∧ -(2 ^ 62) ≤ k ∧ k < 2 ^ 62 then .ok (.lst (List.replicate k.toNat xs).flatten) s else .stuck
    | none => .stuck
  | _, _, _ => .stuck
def rMulA : R2 := orR (rI CMul fun i j => .int (i * j)) rRep
theorem op_mulA {X : Cx} : OpR X (binaryOp .Mult) rMulA := OpR.or op_mul op_rep
section
variable {T : Tb}
theorem rps_rep {F : Hp} {ι : List Addr} {xs : List D} {vs : List V} (r : Rps T F ι xs vs) : ∀ k : Nat, Rps T F ι (List.replicate k xs).flatten (List.replicate k vs).flatten
  | 0 => .nil
  | k + 1 => by
    rw [List.replicate_succ, List.replicate_succ, List.flatten_cons, List.flatten_cons]
    exact r.app (rps_rep r k)
theorem do_mulA : DenOp T rMulA oMulA := by
  intro x y dx dy H P ι F s Q E R rx ry post
  unfold oMulA at post
  split at post
  · split at post
    · rename_i hc
      unfold Rp at rx ry
      refine .inl ⟨_, _, rx, ry, ?_, post.here R (by unfold Rp; rfl)⟩
      unfold cMul at hc
      unfold CMul
      simp only [Bool.or_eq_true, Bool.and_eq_true, decide_eq_true_eq] at hc
      exact hc
    · exact post.elim
  · split at post
    · rename_i xs hx
      split at post
      · rename_i hl
        obtain ⟨p, vs, rfl, e1, e2⟩ := ls_of R rx hx
        unfold Rp at ry
        refine .inr ⟨p, _, vs, rfl, ry, e1, by omega, by omega, by rw [← e2.len]; exact lim_le hl.1, fun l hp => ?_⟩
        refine post.new R hp fun g => ?_
        unfold Rp
        exact ⟨l, _, rfl, upd_same, (rps_rep e2 _).mono g⟩
      · exact post.elim
    · exact post.elim
  · exact post.elim
end
end Mp
/-! # MpJ -/
namespace Mp
open PySem PySem.Spec L2 PyProof.Rows
/-! ## objects of own classes -/
structure ObT (K : PySem.W.Frag) (ca : Nat → Addr) (fm : Nat → Str) (cs : List Nat) (nF : Nat) : Prop where
  cls : ∀ c ∈ cs, Cls K (ca c)
  noat : ∀ c ∈ cs, ∀ i, i < nF → NoAttr K (ca c) (fm i)
  inj : ∀ i, i < nF → ∀ j, j < nF → fm i = fm j → i = j
  ha : ∀ c ∈ cs, PySem.W.findIn K (.ref (ca c)) "__class__" = some (some (.builtin "object.__class__"))
  hn : PySem.W.specialIn K (.builtin "object.__class__") "__get__" = some (some (.builtin "getset_descriptor.__get__"))
  htk : PySem.W.takesIn K (.builtin "object.__class__") = some true
  hm : ∀ c ∈ cs, PySem.W.mroIn K (ca c) (.type "object") = some true
def ob1 (K : PySem.W.Frag) (C : Addr) (fm : Nat → Str) (nF : Nat) : Bool :=
  PySem.W.plainGet K C Str.empty && (PySem.W.hasDictIn K C && (PySem.W.plainOver K C && (decide (PySem.W.findIn K (.ref C) "__setattr__" = some (some (.builtin "object.__setattr__"))) &&
  (decide (PySem.W.findIn K (.ref C) "__class__" = some (some (.builtin "object.__class__"))) && (decide (PySem.W.mroIn K C (.type "object") = some true) && (List.range nF).all fun i => decide (PySem.W.findIn K (.ref C) (fm i) = some none))))))
def obB (ca : PySem.W.Frag → Nat → Addr) (fm : Nat → Str) (cs : List Nat) (nF : Nat) (K : PySem.W.Frag) : Bool :=
  decide (PySem.W.specialIn K (.builtin "object.__class__") "__get__" = some (some (.builtin "getset_descriptor.__get__"))) && (decide (PySem.W.takesIn K (.builtin "object.__class__") = some true) && cs.all fun c => ob1 K (ca K c) fm nF)
theorem obT_of {ca : PySem.W.Frag → Nat → Addr} {fm : Nat → Str} {cs : List Nat} {nF : Nat} {K : PySem.W.Frag} (h : obB ca fm cs nF K = true) (inj : ∀ i, i < nF → ∀ j, j < nF → fm i = fm j → i = j) : ObT K (ca K) fm cs nF := by
  unfold obB at h
  simp only [Bool.and_eq_true, decide_eq_true_eq] at h
  obtain ⟨h1, h2, h3⟩ := h
  rw [List.all_eq_true] at h3
  have one : ∀ c ∈ cs, ob1 K (ca K c) fm nF = true := h3
  have go : ∀ c ∈ cs, Cls K (ca K c) ∧ PySem.W.findIn K (.ref (ca K c)) "__class__" = some (some (.builtin "object.__class__")) ∧ PySem.W.mroIn K (ca K c) (.type "object") = some true ∧ ∀ i, i < nF → NoAttr K (ca K c) (fm i) := fun c hc => by
    have z := one c hc
    unfold ob1 at z
    simp only [Bool.and_eq_true, decide_eq_true_eq] at z
    obtain ⟨z1, z2, z3, z4, z5, z6, z7⟩ := z
    rw [List.all_eq_true] at z7
    exact ⟨⟨z1, z2, z3, z4⟩, z5, z6, fun i hi => of_decide_eq_true (p := PySem.W.findIn K (.ref (ca K c)) (fm i) = some none) (z7 i (List.mem_range.mpr hi))⟩
  exact ⟨fun c hc => (go c hc).1, fun c hc => (go c hc).2.2.2, inj, fun c hc => (go c hc).2.1, h1, h2, fun c hc => (go c hc).2.2.1⟩
def obOf (s : Sto) : D → Option (Nat × List Nat × List D)
  | .obj c ns vs => some (c, ns, vs)
  | .loc n => match s[n]? with
    | some (.obj c ns vs) => some (c, ns, vs)
    | _ => none
  | _ => none
/-- the field i -/
def lkF (i : Nat) : List Nat → List D → Option D
  | n :: ns, v :: vs => if n = i then some v else lkF i ns vs
  | _, _ => none
/-- the field i is set -/
def putN (i : Nat) : List Nat → List Nat
  | [] => [i]
  | n :: ns => if n = i then n :: ns else n :: putN i ns
def putD (i : Nat) (d : D) : List Nat → List D → List D
  | n :: ns, v :: vs => if n = i then d :: vs else v :: putD i d ns vs
  | _, _ => [d]
section
variable {T : Tb}
theorem ob_of {P : Hp} {ι : List Addr} {F : Hp} {s : Sto} {H : Hp} {d : D} {v : V} {c : Nat} {ns : List Nat} {vs : List D} (R : RelH T P ι F s H) (r : Rp T F ι d v) (h : obOf s d = some (c, ns, vs)) :
    ∃ a dx fs, v = .ref a ∧ H a = some (.ins (T.ca c) dx fs) ∧ fs.map (·.1) = ns.map T.fm ∧ Rps T F ι vs (fs.map (·.2)) := by
  unfold obOf at h
  split at h
  · cases h
    unfold Rp at r
    obtain ⟨a, dx, fs, h1, h2, h3, h4⟩ := r
    exact ⟨a, dx, fs, h1, R.sub _ _ h2, h3, h4⟩
  · unfold Rp at r
    obtain ⟨a, e1, rfl⟩ := r
    split at h
    · rename_i hs
      cases h
      obtain ⟨_, dx, fs, h2, h3, h4⟩ := R.cell _ _ _ hs e1
      exact ⟨a, dx, fs, rfl, h2, h3, h4⟩
    · cases h
  · cases h
theorem lk_ok {fm : Nat → Str} {nF i : Nat} (inj : ∀ i, i < nF → ∀ j, j < nF → fm i = fm j → i = j) (hi : i < nF) {F : Hp} {ι : List Addr} {d : D} : ∀ {ns : List Nat} {vs : List D} {fs : List (Str × V)}, (∀ n ∈ ns, n < nF) → fs.map (·.1) = ns.map fm → Rps T F ι vs (fs.map (·.2)) → lkF i ns vs = some d → ∃ v, fs.lookup (fm i) = some v ∧ Rp T F ι d v
  | [], vs, fs, _, _, _, h => by cases vs <;> cases h
  | n :: ns, [], fs, _, _, _, h => by cases h
  | n :: ns, v :: vs, fs, hn, e, r, h => by
    cases fs with
    | nil => cases e
    | cons f fs =>
      obtain ⟨g, x⟩ := f
      rw [List.map_cons, List.map_cons] at e
      injection e with e1 e2
      unfold Rps at r
      obtain ⟨u, us, e3, r1, r2⟩ := r
      rw [List.map_cons] at e3
      injection e3 with e4 e5
      subst e4 e5
      have h' : (if n = i then some v else lkF i ns vs) = some d := h
      by_cases c : n = i
      · rw [if_pos c] at h'
        cases h'
        have e1' : g = fm i := by rw [← c]; exact e1
        refine ⟨x, ?_, r1⟩
        rw [List.lookup_cons, e1']
        simp
      · rw [if_neg c] at h'
        obtain ⟨w, h1, h2⟩ := lk_ok inj hi (fun m hm => hn m (List.mem_cons_of_mem _ hm)) e2 r2 h'
        refine ⟨w, ?_, h2⟩
        have ne : (fm i == g) = false := by
          rw [beq_eq_false_iff_ne]
          intro z
          have e1' : g = fm n := e1
          rw [e1'] at z
          exact c (inj _ hi _ (hn n List.mem_cons_self) z).symm
        rw [List.lookup_cons, ne]
        exact h1
theorem lk_none {fm : Nat → Str} {m : Str} : ∀ {ns : List Nat} {fs : List (Str × V)}, (∀ n ∈ ns, fm n ≠ m) → fs.map (·.1) = ns.map fm → fs.lookup m = none
  | [], fs, _, e => by
    cases fs with
    | nil => rfl
    | cons f fs => cases e
  | n :: ns, fs, hn, e => by
    cases fs with
    | nil => cases e
    | cons f fs =>
      obtain ⟨g, x⟩ := f
      rw [List.map_cons, List.map_cons] at e
      injection e with e1 e2
      have e1' : g = fm n := e1
      rw [List.lookup_cons, e1']
      have ne : (m == fm n) = false := by
        rw [beq_eq_false_iff_ne]
        exact fun z => hn n List.mem_cons_self z.symm
      rw [ne]
      exact lk_none (fun m hm => hn m (List.mem_cons_of_mem _ hm)) e2
theorem put_ok {fm : Nat → Str} {nF i : Nat} (inj : ∀ i, i < nF → ∀ j, j < nF → fm i = fm j → i = j) (hi : i < nF) {F : Hp} {ι : List Addr} {d : D} {v : V} (rd : Rp T F ι d v) : ∀ {ns : List Nat} {vs : List D} {fs : List (Str × V)}, (∀ n ∈ ns, n < nF) → fs.map (·.1) = ns.map fm → Rps T F ι vs (fs.map (·.2)) →
    (putF (fm i) v fs).map (·.1) = (putN i ns).map fm ∧ Rps T F ι (putD i d ns vs) ((putF (fm i) v fs).map (·.2))
  | [], vs, fs, _, e, r => by
    cases fs with
    | cons f fs => cases e
    | nil =>
      have : vs = [] := by
        cases vs with
        | nil => rfl
        | cons _ _ => unfold Rps at r; obtain ⟨_, _, z, _⟩ := r; cases z
      subst this
      exact ⟨rfl, .cons rd .nil⟩
  | n :: ns, vs, fs, hn, e, r => by
    cases fs with
    | nil => cases e
    | cons f fs =>
      obtain ⟨g, x⟩ := f
      rw [List.map_cons, List.map_cons] at e
      injection e with e1 e2
      have e1' : g = fm n := e1
      cases vs with
      | nil => unfold Rps at r; cases r
      | cons w vs =>
        unfold Rps at r
        obtain ⟨u, us, e3, r1, r2⟩ := r
        rw [List.map_cons] at e3
        injection e3 with e4 e5
        subst e4 e5
        unfold putF putN putD
        by_cases c : n = i
        · have e6 : g = fm i := by rw [e1', c]
          rw [if_pos e6, if_pos c, if_pos c]
          exact ⟨by rw [List.map_cons, List.map_cons, e2, e1'], .cons rd r2⟩
        · have e6 : ¬ g = fm i := fun z => c (inj _ (hn n List.mem_cons_self) _ hi (by rw [← e1']; exact z))
          rw [if_neg e6, if_neg c, if_neg c]
          obtain ⟨h1, h2⟩ := put_ok inj hi rd (fun m hm => hn m (List.mem_cons_of_mem _ hm)) e2 r2
          exact ⟨by rw [List.map_cons, List.map_cons, h1, e1'], .cons r1 h2⟩
end
/-! ## e.f, e.f = v -/
def okN (nF : Nat) (ns : List Nat) : Bool := ns.all fun n => decide (n < nF)
theorem okN_ok {nF : Nat} {ns : List Nat} (h : okN nF ns = true) : ∀ n ∈ ns, n < nF := fun n hn => of_decide_eq_true (List.all_eq_true.mp h n hn)
def dFld (cs : List Nat) (nF i : Nat) (f : DE) : DE := fun δ s => (f δ s).bind fun x s1 => match obOf s1 x with
  | some (c, ns, vs) => if (decide (c ∈ cs) && okN nF ns) = true then match lkF i ns vs with
    | some d => .ok d s1
    | none => .stuck
    else .stuck
  | none => .stuck
section
variable {T : Tb} {X : Cx} {cs : List Nat} {nF : Nat}
theorem d_fld {e : Expr} {f : Str} {pos : Pos} {g : DE} (i : Nat) (ob : ObT T.K T.ca T.fm cs nF) (he : PDe T X e g) (hf : f = T.fm i := by rfl) (hi : i < nF := by decide) (hb : attributeBase e f X.env (eval e X.env) = eval e X.env := by rfl) (hK : X.K = T.K := by rfl) :
    PDe T X (.Attribute e f pos) (dFld cs nF i g) := fun pn xe W tk => by
  obtain ⟨t1, p1, d1⟩ := he pn xe W tk
  refine ⟨_, pe_fld (X := X.tr pn xe) p1 hb, fun σ H P ι F δ s Q R E post => ?_⟩
  have hK' : (X.tr pn xe).K = T.K := hK
  rw [hK']
  show t1 σ H _
  refine den_then d1 R E post fun x y H1 ι1 F1 s1 g1 R1 E1 r1 post1 => ?_
  cases q : obOf s1 x with
  | none => rw [q] at post1; exact post1.elim
  | some z =>
    obtain ⟨c, ns, vs⟩ := z
    rw [q] at post1
    dsimp only at post1
    split at post1
    · rename_i hc
      simp only [Bool.and_eq_true, decide_eq_true_eq] at hc
      split at post1
      · rename_i d hd
        obtain ⟨a, dx, fs, rfl, h2, h3, h4⟩ := ob_of R1 r1 q
        obtain ⟨v, h5, h6⟩ := lk_ok ob.inj hi (okN_ok hc.2) h3 h4 hd
        exact ⟨a, _, dx, fs, v, rfl, h2, ob.cls c hc.1, by rw [hf]; exact ob.noat c hc.1 i hi, by rw [hf]; exact h5, post1.here R1 h6⟩
      · exact post1.elim
    · exact post1.elim
/-- o.f = v, o a cell -/
def sFldS (cs : List Nat) (nF i : Nat) (fv fo : DE) : DS := fun δ s => (fv δ s).out δ fun d s1 => (fo δ s1).out δ fun o s2 => match o with
  | .loc n => match s2[n]? with
    | some (.obj c ns vs) => if (decide (c ∈ cs) && (okN nF ns && decide (ns.length < 1000))) = true then .nx δ (s2.set n (.obj c (putN i ns) (putD i d ns vs))) else .stuck
    | _ => .stuck
  | _ => .stuck
theorem s_fld {o value : Expr} {f : Str} {pos pos' : Pos} {fv fo : DE} (i : Nat) (ob : ObT T.K T.ca T.fm cs nF) (hv : PDe T X value fv) (ho : PDe T X o fo) (hf : f = T.fm i := by rfl) (hi : i < nF := by decide)
    (hs : swapsWith value (some (.Attribute o f pos')) pos.line X.env = pure false := by rfl) (hK : X.K = T.K := by rfl) : PDs T X (.Assign [.Attribute o f pos'] value pos) (sFldS cs nF i fv fo) := fun pn xe W tk _ => by
  obtain ⟨t1, p1, d1⟩ := hv pn xe W tk
  obtain ⟨t2, p2, d2⟩ := ho pn xe W tk
  refine ⟨_, ps_fld (X := X.tr pn xe) p2 p1 hs, fun En σ H P ι F δ s R E post => ?_⟩
  have hK' : (X.tr pn xe).K = T.K := hK
  rw [hK']
  show t1 σ H _
  refine dens_then d1 R E post fun x y H1 ι1 F1 s1 g1 R1 E1 r1 post1 => ?_
  refine dens_then d2 R1 E1 post1 fun x2 y2 H2 ι2 F2 s2 g2 R2 E2 r2 post2 => ?_
  split at post2
  · rename_i n
    split at post2
    · rename_i c ns vs hs2
      split at post2
      · rename_i hc
        simp only [Bool.and_eq_true, decide_eq_true_eq] at hc
        unfold Rp at r2
        obtain ⟨a, e1, rfl⟩ := r2
        obtain ⟨h1, dx, fs, h2, h3, h4⟩ := R2.cell _ _ _ hs2 e1
        have hl : fs.length = ns.length := by
          have := congrArg List.length h3
          simpa using this
        obtain ⟨h5, h6⟩ := put_ok ob.inj hi (r1.mono g2) (okN_ok hc.2.1) h3 h4
        refine ⟨a, _, dx, fs, rfl, h2, ob.cls c hc.1, by rw [hf]; exact ob.noat c hc.1 i hi, by rw [hl]; exact hc.2.2, ?_⟩
        rw [hf]
        exact post2 σ _ ι2 F2 (Grow.refl _ _) (R2.setC hs2 rfl e1 ⟨h1, dx, _, upd_same, h5, h6⟩) E2
      · exact post2.elim
    · exact post2.elim
  · exact post2.elim
end
/-! ## methods -/
/-- the class c has, under m, the def that does what φ tells -/
structure Mc (T : Tb) (P : Program) (w : World) (mg : Str → Option Value) (base : Heap) (c : Nat) (m : Str) (k n : Nat) (φ : List D → Sto → Res D) : Prop where
  ex : ∃ (f : Addr) (fd : FuncData) (ps : List Str), Cls T.K (T.ca c) ∧ Meth T.K (T.ca c) m f ∧ Binds T.K fd ps [] ∧ FnOk P w T.K mg base (L2.CX P w) k f fd ps (spD T n φ)
theorem Mc.up {T : Tb} {P : Program} {w : World} {mg : Str → Option Value} {base : Heap} {c : Nat} {m : Str} {j k n : Nat} {φ : List D → Sto → Res D} (h : Mc T P w mg base c m j n φ) (hk : j ≤ k) : Mc T P w mg base c m k n φ := by
  obtain ⟨f, fd, ps, h1, h2, h3, h4⟩ := h.ex
  exact ⟨f, fd, ps, h1, h2, h3, h4.mono hk⟩
def tMethS (C : Addr) (m : Str) (sp : Sp) (E : L2.St → XK) (ta : TE) (t : TA) : TE := fun σ H Q => ta σ H fun x H1 => ∃ a dx fs, x = .ref a ∧ H1 a = some (.ins C dx fs) ∧ fs.lookup m = none ∧ t σ H1 fun vs H2 => sp (x :: vs) H2 Q (E σ)
section
variable {X : Cx} {CX : CXT} {k : Nat} {f C : Addr} {fd : FuncData} {ps : List Str} {sp : Sp} {E : L2.St → XK} {x m : Str} {p pos apos : Pos} {e o : Expr} {es : List Expr} {ta : TE} {t : TA}
theorem pe_methS {pl : Sem Bool} (he : PE X o ta) (c : Cls X.K C) (hm : Meth X.K C m f) (F : FnOk X.prog X.w X.K X.mg X.base CX k f fd ps sp) (hr : Room k X.A) (hb : Binds X.K fd ps []) (hx : ∀ σ, PassesAt CX X σ (E σ)) (ha : PA X (e :: es) t)
    (hst : starEach (e :: es) X.env = (false, eval e X.env) :: starEach es X.env := by rfl) (hpl : (backTo pos (starEach es X.env)).any (·.1) = false := by rfl)
    (ht : eval (.Call (.Attribute o m apos) (e :: es) [] pos) X.env = (do
      let ov ← eval o X.env
      standAt apos.atName
      let (f, first) ← holding [ov] (getMethod ov m pl)
      callWith pos f first (backTo pos (starEach (e :: es) X.env)) (backToKw pos (keywordEach [] X.env))) := by rfl) :
    PE X (.Call (.Attribute o m apos) (e :: es) [] pos) (tMethS C m sp E ta t) := by
  refine ⟨fun pins s σ H Q I h => ?_⟩
  refine PySem.W.methodCall_KW (pl := pl) (thn (he.run pins s σ H _ I h) fun u s1 ⟨x, H1, I1, rx, a, dx, fs, ex, ea, l, q⟩ => ?_) ht
  subst ex
  obtain rfl : u = Value.ref a := rx
  refine getmeth_ok I1 ea c hm l ?_
  refine PySem.W.callWith_K (first := [.ref a]) (h₀ := X.base) I.ok.mod.kin hm.kp (thn (ha.run pos pins s1 σ H1 _ I1 q) fun us s2 ⟨vs, H2, I2, r, q2⟩ => ⟨I2.kIn, ?_⟩) hst hpl
  exact run_fnS (us := .ref a :: us) (vs := .ref a :: vs) F hr hb (hx σ) I2 (.cons rfl r) q2
theorem pe_methS0 {pl : Sem Bool} (he : PE X o ta) (c : Cls X.K C) (hm : Meth X.K C m f) (F : FnOk X.prog X.w X.K X.mg X.base CX k f fd ps sp) (hr : Room k X.A) (hb : Binds X.K fd ps []) (hx : ∀ σ, PassesAt CX X σ (E σ))
    (ht : eval (.Call (.Attribute o m apos) [] [] pos) X.env = (do
      let ov ← eval o X.env
      standAt apos.atName
      let (f, first) ← holding [ov] (getMethod ov m pl)
      callWith pos f first (backTo pos (starEach [] X.env)) (backToKw pos (keywordEach [] X.env))) := by rfl) :
    PE X (.Call (.Attribute o m apos) [] [] pos) (tMethS C m sp E ta tNil) := by
  refine ⟨fun pins s σ H Q I h => ?_⟩
  refine PySem.W.methodCall_KW (pl := pl) (thn (he.run pins s σ H _ I h) fun u s1 ⟨x, H1, I1, rx, a, dx, fs, ex, ea, l, q⟩ => ?_) ht
  subst ex
  obtain rfl : u = Value.ref a := rx
  refine getmeth_ok I1 ea c hm l ?_
  exact PySem.W.callWith_K0 (first := [.ref a]) I1.kIn hm.kp (run_fnS (us := [.ref a]) (vs := [.ref a]) F hr hb (hx σ) I1 (.cons rfl .nil) q)
/-- C(..): a new instance, then its __init__ -/
def tMakeS (C : Addr) (sp : Sp) (E : L2.St → XK) (t : TA) : TE := fun σ H Q => t σ H fun vs H1 => ∀ x dx, H1 x = none → H1 dx = none → dx ≠ x →
  sp (.ref x :: vs) (upd (upd H1 dx (.own x)) x (.ins C dx [])) (fun v H2 => v = .non ∧ Q (.ref x) H2) (E σ)
theorem run_makeS {pins : List (Addr × Obj)} {σ : L2.St} {H : Hp} {s : Shared} {Q : VK} {us : List Value} {vs : List V} (M : Mk X.K C f) (F : FnOk X.prog X.w X.K X.mg X.base CX k f fd ps sp) (hr : Room (k + 1) X.A) (hb : Binds X.K fd ps [])
    (hx : PassesAt CX X σ (E σ)) (I : Inv X pins σ H s) (r : Vals vs us)
    (h : ∀ x dx, H x = none → H dx = none → dx ≠ x → sp (.ref x :: vs) (upd (upd H dx (.own x)) x (.ins C dx [])) (fun v H2 => v = .non ∧ Q (.ref x) H2) (E σ)) :
    wpAny (model X.prog X.w) X.A (call (.ref C) us) (EP X pins σ Q) X.xe s := by
  have hq := h (s.heap.objs.size + 1) s.heap.objs.size (I.hok.fresh (Nat.le_succ _)) (I.hok.fresh (Nat.le_refl _)) (Nat.ne_of_lt (Nat.lt_succ_self _))
  have I2 := Inv.made (C := C) I
  have r2 : Vals (V.ref (s.heap.objs.size + 1) :: vs) (Value.ref (s.heap.objs.size + 1) :: us) := .cons rfl r
  have hl : (Value.ref (s.heap.objs.size + 1) :: us).length = ps.length := by
    have e := r2.length
    rw [F.len _ _ _ _ hq] at e
    exact e.symm
  have b := hb _ (Value.ref (s.heap.objs.size + 1) :: us) I2.kIn (by rw [List.append_nil]; exact hl)
  rw [List.append_nil] at b
  refine wpAny_call (make_map (f := f) I.kIn M.makes M.init (beq_iff_eq.mp M.fn) (codeAny_mono (F.run _ X.stack _ _ ⟨Value.ref (s.heap.objs.size + 1) :: us, []⟩ (Value.ref (s.heap.objs.size + 1) :: us) _ _ (E σ) (hr.make C us [])
    (I2.env0.make C us []) b r2 hq) fun r s' hq' => ?_))
  cases r with
  | error e => exact hx pins _ _ e s' I2 hq'
  | ok fl =>
    cases fl with
    | ret u =>
      obtain ⟨v, H', I3, rv, ev, q3⟩ := I2.after hq'
      subst ev
      exact ⟨rv, ⟨V.ref (s.heap.objs.size + 1), H', I3, rfl, q3⟩⟩
    | next => exact False.elim hq'
    | brk => exact False.elim hq'
    | cont => exact False.elim hq'
theorem pe_makeS (M : Mk X.K C f) (F : FnOk X.prog X.w X.K X.mg X.base CX k f fd ps sp) (hr : Room (k + 1) X.A) (hg : Gl X x) (hm : X.mg x = some (.ref C)) (hb : Binds X.K fd ps []) (hx : ∀ σ, PassesAt CX X σ (E σ))
    (ha : PA X (e :: es) t) (hdb : (x == ("__debug__" : Str)) = false := by decide) (he : starEach (e :: es) X.env = (false, eval e X.env) :: starEach es X.env := by rfl) (hpl : (backTo pos (starEach es X.env)).any (·.1) = false := by rfl) :
    PE X (.Call (.Name x p) (e :: es) [] pos) (tMakeS C sp E t) := by
  refine ⟨fun pins s σ H Q I h => ?_⟩
  refine wpAny_Call_Name_kw (ld_glob I hg hm ?_ hdb)
  refine PySem.W.callWith_K (h₀ := X.base) I.ok.mod.kin M.kp (thn (ha.run pos pins s σ H _ I h) fun us s1 ⟨vs, H1, I1, r, q⟩ => ⟨I1.kIn, ?_⟩) he hpl
  exact run_makeS M F hr hb (hx σ) I1 r q
theorem pe_makeS0 (M : Mk X.K C f) (F : FnOk X.prog X.w X.K X.mg X.base CX k f fd ps sp) (hr : Room (k + 1) X.A) (hg : Gl X x) (hm : X.mg x = some (.ref C)) (hb : Binds X.K fd ps []) (hx : ∀ σ, PassesAt CX X σ (E σ))
    (hdb : (x == ("__debug__" : Str)) = false := by decide) : PE X (.Call (.Name x p) [] [] pos) (tMakeS C sp E tNil) := by
  refine ⟨fun pins s σ H Q I h => ?_⟩
  refine wpAny_Call_Name_kw (ld_glob I hg hm ?_ hdb)
  exact PySem.W.callWith_K0 I.kIn M.kp (run_makeS (us := []) M F hr hb (hx σ) I .nil h)
end
/-- so much of the table: the receiver's class picks the def -/
def dMeth (nF : Nat) (tbl : List (Nat × (List D → Sto → Res D))) (f : DE) (fa : DA) : DE := fun δ s => (f δ s).bind fun x s1 => match obOf s1 x with
  | some (c, ns, _) => if okN nF ns = true then match tbl.lookup c with
    | some φ => (fa δ s1).bind fun ds s2 => φ (x :: ds) s2
    | none => .stuck
    else .stuck
  | none => .stuck
theorem PE.orE {X : Cx} {e : Expr} {t t' : TE} (h : PE X e t) (h' : PE X e t') : PE X e (fun σ H Q => t σ H Q ∨ t' σ H Q) := ⟨fun pins s σ H Q I q => by
  rcases q with q | q
  · exact h.run pins s σ H Q I q
  · exact h'.run pins s σ H Q I q⟩
section
variable {T : Tb} {X : Cx} {nF j k : Nat} {m : Str}
theorem den_meth1 {W : WX} {n c : Nat} {φ : List D → Sto → Res D} {tbl : List (Nat × (List D → Sto → Res D))} {t1 : TE} {t2 : TA} {f : DE} {fa : DA} (d1 : DenG T (Rp T) W t1 f) (d2 : DenG T (RpsN T n) W t2 fa) (hmf : ∀ i, i < nF → T.fm i ≠ m) (hl : tbl.lookup c = some φ)
    {σ : L2.St} {H P : Hp} {ι : List Addr} {F : Hp} {δ : Env} {s : Sto} {Q : VK} (R : RelH T P ι F s H) (E : REnv T F ι δ σ) (post : Post T P (Rp T) Q (fun c H' => W (.ref (T.ca c)) none σ H') F ι (dMeth nF tbl f fa δ s))
    (hsel : ∀ x s1, f δ s = .ok x s1 → ∃ ns vs, obOf s1 x = some (c, ns, vs)) : tMethS (T.ca c) m (spD T (n + 1) φ) (WE W) t1 t2 σ H Q := by
  show t1 σ H _
  unfold dMeth at post
  refine d1 σ H P ι F δ s _ R E ?_
  cases e : f δ s with
  | exc k s1 => rw [e] at post; exact post
  | stuck => rw [e] at post; exact post
  | ok x s1 =>
    rw [e] at post
    obtain ⟨ns, vs, ho⟩ := hsel x s1 e
    intro y H1 ι1 F1 g1 R1 r1
    have post1 := Post.mono g1 (show Post T P (Rp T) Q (fun c H' => W (.ref (T.ca c)) none σ H') F ι (match obOf s1 x with
      | some (c, ns, _) => if okN nF ns = true then match tbl.lookup c with
        | some φ => (fa δ s1).bind fun ds s2 => φ (x :: ds) s2
        | none => .stuck
        else .stuck
      | none => .stuck) from post)
    rw [ho] at post1
    dsimp only at post1
    split at post1
    · rename_i hn
      rw [hl] at post1
      dsimp only at post1
      obtain ⟨a, dx, fs, rfl, h2, h3, h4⟩ := ob_of R1 r1 ho
      refine ⟨a, dx, fs, rfl, h2, lk_none (fun i hi => hmf i (okN_ok hn i hi)) h3, ?_⟩
      refine den_then d2 R1 (E.mono g1) post1 fun ds us H2 ι2 F2 s2 g2 R2 E2 r2 post2 => ?_
      exact ⟨by rw [List.length_cons, r2.2], P, ι2, F2, s2, x :: ds, R2, .cons (r1.mono g2) r2.1, post2⟩
    · exact post1.elim
/-- the receivers' classes, one after another -/
theorem meth_list {e : Expr} {n : Nat} {f : DE} {fa : DA} {tbl : List (Nat × (List D → Sto → Res D))} {pn : List (Addr × Obj)} {xe : Value → Shared → Prop} {W : WX} {t1 : TE} {t2 : TA} (d1 : DenG T (Rp T) W t1 f) (d2 : DenG T (RpsN T n) W t2 fa) (hmf : ∀ i, i < nF → T.fm i ≠ m)
    (h0 : PE (X.tr pn xe) e (fun σ H _ => t1 σ H fun _ _ => False)) : ∀ (l : List (Nat × (List D → Sto → Res D))), (∀ p ∈ l, tbl.lookup p.1 = some p.2 ∧ PE (X.tr pn xe) e (tMethS (T.ca p.1) m (spD T (n + 1) p.2) (WE W) t1 t2)) →
      ∃ t, PE (X.tr pn xe) e t ∧ ∀ σ H P ι F δ s Q, RelH T P ι F s H → REnv T F ι δ σ → Post T P (Rp T) Q (fun c H' => W (.ref (T.ca c)) none σ H') F ι (dMeth nF tbl f fa δ s) →
        (∀ x s1, f δ s = .ok x s1 → ∃ p ∈ l, ∃ ns vs, obOf s1 x = some (p.1, ns, vs)) → t σ H Q
  | [], _ => by
    refine ⟨_, h0, fun σ H P ι F δ s Q R E post hsel => ?_⟩
    refine d1 σ H P ι F δ s _ R E ?_
    unfold dMeth at post
    cases e : f δ s with
    | exc k s1 => rw [e] at post; exact post
    | stuck => rw [e] at post; exact post
    | ok x s1 =>
      obtain ⟨p, hp, _⟩ := hsel x s1 e
      cases hp
  | p :: l, h => by
    obtain ⟨t, ht, hd⟩ := meth_list d1 d2 hmf h0 l fun q hq => h q (List.mem_cons_of_mem _ hq)
    obtain ⟨hp1, hp2⟩ := h p List.mem_cons_self
    refine ⟨_, PE.orE hp2 ht, fun σ H P ι F δ s Q R E post hsel => ?_⟩
    by_cases hq : ∀ x s1, f δ s = .ok x s1 → ∃ ns vs, obOf s1 x = some (p.1, ns, vs)
    · exact .inl (den_meth1 d1 d2 hmf hp1 R E post hq)
    · refine .inr (hd σ H P ι F δ s Q R E post fun x s1 e => ?_)
      obtain ⟨q, hq1, hq2⟩ := hsel x s1 e
      rcases List.mem_cons.mp hq1 with rfl | hq1
      · refine absurd (fun x' s1' e' => ?_) hq
        rw [e] at e'
        cases e'
        exact hq2
      · exact ⟨q, hq1, hq2⟩
theorem lookup_mem' {α : Type} {c : Nat} {φ : α} : ∀ {l : List (Nat × α)}, l.lookup c = some φ → (c, φ) ∈ l
  | [], h => by cases h
  | (d, ψ) :: l, h => by
    rw [List.lookup_cons] at h
    cases q : (c == d) with
    | true =>
      rw [q] at h
      cases h
      rw [beq_iff_eq.mp q]
      exact List.mem_cons_self
    | false =>
      rw [q] at h
      exact List.mem_cons_of_mem _ (lookup_mem' h)
theorem sel_of {P : Hp} {W : WX} {σ : L2.St} {f : DE} {fa : DA} {tbl : List (Nat × (List D → Sto → Res D))} {δ : Env} {s : Sto} {Q : VK} {F : Hp} {ι : List Addr} (post : Post T P (Rp T) Q (fun c H' => W (.ref (T.ca c)) none σ H') F ι (dMeth nF tbl f fa δ s)) :
    ∀ x s1, f δ s = .ok x s1 → ∃ p ∈ tbl, ∃ ns vs, obOf s1 x = some (p.1, ns, vs) := fun x s1 e => by
  unfold dMeth at post
  rw [e] at post
  have post1 : Post T P (Rp T) Q (fun c H' => W (.ref (T.ca c)) none σ H') F ι (match obOf s1 x with
      | some (c, ns, _) => if okN nF ns = true then match tbl.lookup c with
        | some φ => (fa δ s1).bind fun ds s2 => φ (x :: ds) s2
        | none => .stuck
        else .stuck
      | none => .stuck) := post
  cases q : obOf s1 x with
  | none => rw [q] at post1; exact post1.elim
  | some z =>
    obtain ⟨c, ns, vs⟩ := z
    rw [q] at post1
    dsimp only at post1
    split at post1
    · cases q2 : tbl.lookup c with
      | none => rw [q2] at post1; exact post1.elim
      | some φ => exact ⟨(c, φ), lookup_mem' q2, ns, vs, rfl⟩
    · exact post1.elim
/-- each row of the table is the first of its class, and there is a def for it -/
def AllM (T : Tb) (X : Cx) (m : Str) (j n : Nat) (tbl : List (Nat × (List D → Sto → Res D))) : List (Nat × (List D → Sto → Res D)) → Prop
  | [] => True
  | p :: l => (Mc T X.prog X.w X.mg X.base p.1 m j n p.2 ∧ tbl.lookup p.1 = some p.2) ∧ AllM T X m j n tbl l
theorem AllM.mem {n : Nat} {tbl : List (Nat × (List D → Sto → Res D))} : ∀ {l : List (Nat × (List D → Sto → Res D))}, AllM T X m j n tbl l → ∀ p ∈ l, Mc T X.prog X.w X.mg X.base p.1 m j n p.2 ∧ tbl.lookup p.1 = some p.2
  | [], _, p, hp => by cases hp
  | q :: l, h, p, hp => by
    rcases List.mem_cons.mp hp with rfl | hp
    · exact h.1
    · exact AllM.mem h.2 p hp
theorem d_meth {o e : Expr} {es : List Expr} {apos pos : Pos} {f : DE} {fa : DA} {pl : Sem Bool} {tbl : List (Nat × (List D → Sto → Res D))} (hall : AllM T X m j ((e :: es).length + 1) tbl tbl) (hmf : ∀ i, i < nF → T.fm i ≠ m) (ho : PDe T X o f) (ha : PDa T X (e :: es) fa) (hr : Room j X.A) (hK : X.K = T.K := by rfl)
    (hst : starEach (e :: es) X.env = (false, eval e X.env) :: starEach es X.env := by rfl) (hpl : (backTo pos (starEach es X.env)).any (·.1) = false := by rfl)
    (ht : eval (.Call (.Attribute o m apos) (e :: es) [] pos) X.env = (do
      let ov ← eval o X.env
      standAt apos.atName
      let (f, first) ← holding [ov] (getMethod ov m pl)
      callWith pos f first (backTo pos (starEach (e :: es) X.env)) (backToKw pos (keywordEach [] X.env))) := by rfl) : PDe T X (.Call (.Attribute o m apos) (e :: es) [] pos) (dMeth nF tbl f fa) := fun pn xe W tk => by
  obtain ⟨t1, p1, d1⟩ := ho pn xe W tk
  obtain ⟨t2, p2, d2⟩ := ha pn xe W tk
  have h0 : PE (X.tr pn xe) (.Call (.Attribute o m apos) (e :: es) [] pos) (fun σ H _ => t1 σ H fun _ _ => False) :=
    ⟨fun pins s σ H Q I h => PySem.W.methodCall_KW (pl := pl) (thn (p1.run pins s σ H _ I h) fun u s1 ⟨x, H1, I1, rx, q⟩ => q.elim) ht⟩
  obtain ⟨t, hp, hd⟩ := meth_list (nF := nF) (X := X) (tbl := tbl) d1 d2 hmf h0 tbl fun q hq => by
    obtain ⟨hm, hl⟩ := hall.mem q hq
    obtain ⟨g, fd, ps, h1, h2, h3, h4⟩ := hm.ex
    rw [← hK] at h1 h2 h3 h4
    exact ⟨hl, pe_methS (X := X.tr pn xe) (pl := pl) p1 h1 h2 h4 hr h3 (fun σ => passAt tk σ) p2 hst hpl ht⟩
  exact ⟨t, hp, fun σ H P ι F δ s Q R E post => hd σ H P ι F δ s Q R E post (sel_of post)⟩
theorem d_meth0 {o : Expr} {apos pos : Pos} {f : DE} {pl : Sem Bool} {tbl : List (Nat × (List D → Sto → Res D))} (hall : AllM T X m j 1 tbl tbl) (hmf : ∀ i, i < nF → T.fm i ≠ m) (ho : PDe T X o f) (hr : Room j X.A) (hK : X.K = T.K := by rfl)
    (ht : eval (.Call (.Attribute o m apos) [] [] pos) X.env = (do
      let ov ← eval o X.env
      standAt apos.atName
      let (f, first) ← holding [ov] (getMethod ov m pl)
      callWith pos f first (backTo pos (starEach [] X.env)) (backToKw pos (keywordEach [] X.env))) := by rfl) : PDe T X (.Call (.Attribute o m apos) [] [] pos) (dMeth nF tbl f aNil) := fun pn xe W tk => by
  obtain ⟨t1, p1, d1⟩ := ho pn xe W tk
  have d2 : DenG T (RpsN T 0) W tNil aNil := fun _ _ _ _ _ _ _ _ R _ post => post.here R ⟨.nil, rfl⟩
  have h0 : PE (X.tr pn xe) (.Call (.Attribute o m apos) [] [] pos) (fun σ H _ => t1 σ H fun _ _ => False) :=
    ⟨fun pins s σ H Q I h => PySem.W.methodCall_KW (pl := pl) (thn (p1.run pins s σ H _ I h) fun u s1 ⟨x, H1, I1, rx, q⟩ => q.elim) ht⟩
  obtain ⟨t, hp, hd⟩ := meth_list (nF := nF) (X := X) (tbl := tbl) d1 d2 hmf h0 tbl fun q hq => by
    obtain ⟨hm, hl⟩ := hall.mem q hq
    obtain ⟨g, fd, ps, h1, h2, h3, h4⟩ := hm.ex
    rw [← hK] at h1 h2 h3 h4
    exact ⟨hl, pe_methS0 (X := X.tr pn xe) (pl := pl) p1 h1 h2 h4 hr h3 (fun σ => passAt tk σ) ht⟩
  exact ⟨t, hp, fun σ H P ι F δ s Q R E post => hd σ H P ι F δ s Q R E post (sel_of post)⟩
end
/-! ## C(..) -/
structure Mkc (T : Tb) (P : Program) (w : World) (mg : Str → Option Value) (base : Heap) (c : Nat) (x : Str) (k n : Nat) (φ : List D → Sto → Res D) : Prop where
  ex : ∃ (f : Addr) (fd : FuncData) (ps : List Str), Mk T.K (T.ca c) f ∧ mg x = some (.ref (T.ca c)) ∧ Binds T.K fd ps [] ∧ FnOk P w T.K mg base (L2.CX P w) k f fd ps (spD T n φ)
/-- the new object is a cell -/
def mkO (c : Nat) (φ : List D → Sto → Res D) (ds : List D) (s : Sto) : Res D := match φ (.loc s.length :: ds) (s ++ [.obj c [] []]) with
  | .ok .non s2 => .ok (.loc s.length) s2
  | .exc k s2 => .exc k s2
  | _ => .stuck
/-- .. and stays as it is behind its __init__ -/
def frzO (n : Nat) : Res D → Res D
  | .ok (.loc m) s2 => match s2[n]? with
    | some (.obj c ns vs) => if (decide (m = n) && (decide (s2.length = n + 1) && (belows n vs && (s2.take n).all (Cell.below n)))) = true then .ok (.obj c ns vs) (s2.take n) else .stuck
    | _ => .stuck
  | .exc k s2 => cutX n k s2
  | _ => .stuck
def mkOF (c : Nat) (φ : List D → Sto → Res D) (ds : List D) (s : Sto) : Res D := frzO s.length (mkO c φ ds s)
section
variable {T : Tb} {X : Cx} {j k : Nat}
theorem post_mkO {n c : Nat} {φ : List D → Sto → Res D} {ds : List D} {vs : List V} {H P : Hp} {ι : List Addr} {F : Hp} {s : Sto} {Q : VK} {E : Nat → Hp → Prop} (R : RelH T P ι F s H) (r : Rps T F ι ds vs) (hn : vs.length = n) (post : Post T P (Rp T) Q E F ι (mkO c φ ds s))
    {E' : XK} (hE : ∀ c H', E c H' → E' (.ref (T.ca c)) none H') : ∀ x dx, H x = none → H dx = none → dx ≠ x → spD T (n + 1) φ (.ref x :: vs) (upd (upd H dx (.own x)) x (.ins (T.ca c) dx [])) (fun v H2 => v = .non ∧ Q (.ref x) H2) E' := fun x dx hx hdx ne => by
  have R1 := R.new hdx (.own x)
  have g1 : Grow F ι (upd F dx (.own x)) ι := grow_new (R.freeF hdx) _
  have hx1 : upd H dx (.own x) x = none := by rw [upd_ne (Ne.symm ne)]; exact hx
  have R2 := R1.alloc (c := .obj c [] []) (o := .ins (T.ca c) dx []) hx1 ⟨R1.freeF hx1, dx, [], upd_same, rfl, .nil⟩
  have g2 := g1.trans (grow_app (upd F dx (.own x)) ι x)
  refine ⟨by rw [List.length_cons, hn], P, _, _, _, .loc s.length :: ds, R2, .cons ?_ (r.mono g2), ?_⟩
  · unfold Rp
    exact ⟨x, by rw [← R.len]; simp, rfl⟩
  · unfold mkO at post
    cases e : φ (.loc s.length :: ds) (s ++ [.obj c [] []]) with
    | stuck => rw [e] at post; exact post.elim
    | exc k s2 =>
      rw [e] at post
      exact fun H' ι' F' g' R' => hE _ _ (post H' ι' F' (g2.trans g') R')
    | ok d s2 =>
      rw [e] at post
      cases d with
      | non =>
        intro v H' ι' F' g' R' rv
        unfold Rp at rv
        refine ⟨rv, post (.ref x) H' ι' F' (g2.trans g') R' ?_⟩
        unfold Rp
        exact ⟨x, g'.at (by rw [← R.len]; simp), rfl⟩
      | _ => exact post.elim
theorem post_frz {P : Hp} {ι : List Addr} {F : Hp} {s : Sto} {H : Hp} {Q : VK} {E : Nat → Hp → Prop} {r : Res D} (R : RelH T P ι F s H) (post : Post T P (Rp T) Q E F ι (frzO s.length r)) : Post T P (Rp T) Q E F ι r := by
  cases r with
  | stuck => exact post
  | exc k s2 =>
    have post' : Post T P (Rp T) Q E F ι (cutX s.length k s2) := post
    unfold cutX at post'
    split at post'
    · exact post'
    · split at post'
      · rename_i hb
        simp only [Bool.and_eq_true, decide_eq_true_eq] at hb
        exact fun H' ι' F' g R' => post' H' _ F' (takeG g R.len) (R'.cut hb.2)
      · exact post'.elim
  | ok d s2 =>
    cases d with
    | loc m =>
      unfold frzO at post
      dsimp only at post
      split at post
      · rename_i c ns vs hs
        split at post
        · rename_i hb
          simp only [Bool.and_eq_true, decide_eq_true_eq] at hb
          obtain ⟨rfl, hb1, hb2, hb3⟩ := hb
          intro v H' ι' F' g R' rv
          unfold Rp at rv
          obtain ⟨a, e1, rfl⟩ := rv
          obtain ⟨h1, dx, fs, h2, h3, h4⟩ := R'.cell _ _ _ hs e1
          have R2 := R'.freeze hs rfl e1 h1 h2
          have g2 : Grow F' ι' (upd F' a (.ins (T.ca c) dx fs)) ι' := grow_new h1 _
          have e3 : (s2.set s.length .dead).take s.length = s2.take s.length := by
            rw [List.take_set, List.set_eq_of_length_le (by rw [List.length_take]; omega)]
          have R3 := R2.cut (n := s.length) (by rw [e3]; exact hb3)
          rw [e3] at R3
          refine post (.ref a) H' _ _ (takeG (g.trans g2) R.len) R3 ?_
          unfold Rp
          exact ⟨a, dx, fs, rfl, upd_same, h3, (h4.mono g2).takeI hb2⟩
        · exact post.elim
      · exact post.elim
    | _ => exact post.elim
def dMake (φ : List D → Sto → Res D) (fa : DA) : DE := dCall φ fa
theorem d_make {x : Str} {p pos : Pos} {e : Expr} {es : List Expr} {c n : Nat} {φ : List D → Sto → Res D} {fa : DA} (m : Mkc T X.prog X.w X.mg X.base c x k n φ) (ha : PDa T X (e :: es) fa) (hr : Room j X.A) (hk : k + 1 ≤ j := by decide) (hn : (e :: es).length + 1 = n := by rfl) (hg : Gl X x := by rfl) (hK : X.K = T.K := by rfl)
    (hdb : (x == ("__debug__" : Str)) = false := by decide) (he : starEach (e :: es) X.env = (false, eval e X.env) :: starEach es X.env := by rfl) (hpl : (backTo pos (starEach es X.env)).any (·.1) = false := by rfl) :
    PDe T X (.Call (.Name x p) (e :: es) [] pos) (dCall (mkO c φ) fa) := fun pn xe W tk => by
  obtain ⟨t1, p1, d1⟩ := ha pn xe W tk
  obtain ⟨f, fd, ps, h1, h2, h3, h4⟩ := m.ex
  rw [← hK] at h1 h3 h4
  refine ⟨_, pe_makeS (X := X.tr pn xe) h1 h4 (hr.mono hk) hg h2 h3 (fun σ => passAt tk σ) p1 hdb he hpl, fun σ H P ι F δ s Q R E post => ?_⟩
  show t1 σ H _
  refine den_then d1 R E post fun ds vs H1 ι1 F1 s1 g R1 E1 r1 post1 => ?_
  subst hn
  exact post_mkO R1 r1.1 r1.2 post1 fun _ _ h => h
theorem d_makeF {x : Str} {p pos : Pos} {e : Expr} {es : List Expr} {c n : Nat} {φ : List D → Sto → Res D} {fa : DA} (m : Mkc T X.prog X.w X.mg X.base c x k n φ) (ha : PDa T X (e :: es) fa) (hr : Room j X.A) (hk : k + 1 ≤ j := by decide) (hn : (e :: es).length + 1 = n := by rfl) (hg : Gl X x := by rfl) (hK : X.K = T.K := by rfl)
    (hdb : (x == ("__debug__" : Str)) = false := by decide) (he : starEach (e :: es) X.env = (false, eval e X.env) :: starEach es X.env := by rfl) (hpl : (backTo pos (starEach es X.env)).any (·.1) = false := by rfl) :
    PDe T X (.Call (.Name x p) (e :: es) [] pos) (dCall (mkOF c φ) fa) := fun pn xe W tk => by
  obtain ⟨t1, p1, d1⟩ := ha pn xe W tk
  obtain ⟨f, fd, ps, h1, h2, h3, h4⟩ := m.ex
  rw [← hK] at h1 h3 h4
  refine ⟨_, pe_makeS (X := X.tr pn xe) h1 h4 (hr.mono hk) hg h2 h3 (fun σ => passAt tk σ) p1 hdb he hpl, fun σ H P ι F δ s Q R E post => ?_⟩
  show t1 σ H _
  refine den_then d1 R E post fun ds vs H1 ι1 F1 s1 g R1 E1 r1 post1 => ?_
  subst hn
  exact post_mkO R1 r1.1 r1.2 (post_frz R1 post1) fun _ _ h => h
theorem d_make0 {x : Str} {p pos : Pos} {c : Nat} {φ : List D → Sto → Res D} (m : Mkc T X.prog X.w X.mg X.base c x k 1 φ) (hr : Room j X.A) (hk : k + 1 ≤ j := by decide) (hg : Gl X x := by rfl) (hK : X.K = T.K := by rfl) (hdb : (x == ("__debug__" : Str)) = false := by decide) :
    PDe T X (.Call (.Name x p) [] [] pos) (dCall (mkO c φ) aNil) := fun pn xe W tk => by
  obtain ⟨f, fd, ps, h1, h2, h3, h4⟩ := m.ex
  rw [← hK] at h1 h3 h4
  refine ⟨_, pe_makeS0 (X := X.tr pn xe) h1 h4 (hr.mono hk) hg h2 h3 (fun σ => passAt tk σ) hdb, fun σ H P ι F δ s Q R E post => ?_⟩
  have post1 : Post T P (Rp T) Q (fun c H' => W (.ref (T.ca c)) none σ H') F ι (mkO c φ [] s) := post
  exact post_mkO (n := 0) R .nil rfl post1 fun _ _ h => h
end
/-! ### a class without an __init__ of its own -/
structure Mk0 (K : PySem.W.Frag) (C : Addr) : Prop where
  makes : PySem.W.makesIn K C = true
  init : PySem.W.findIn K (.ref C) "__init__" = some (some (.builtin "object.__init__"))
  top : PySem.W.mroIn K C (.type "object") = some true
  kp : PySem.W.keepIn K (.ref C) = true
theorem pe_mk0 {X : Cx} {C : Addr} {x : Str} {p pos : Pos} (M : Mk0 X.K C) (hg : Gl X x) (hm : X.mg x = some (.ref C)) (hdb : (x == ("__debug__" : Str)) = false := by decide) :
    PE X (.Call (.Name x p) [] [] pos) (fun _ H Q => ∀ x dx, H x = none → H dx = none → dx ≠ x → Q (.ref x) (upd (upd H dx (.own x)) x (.ins C dx []))) := by
  refine ⟨fun pins s σ H Q I h => ?_⟩
  refine wpAny_Call_Name_kw (ld_glob I hg hm ?_ hdb)
  refine PySem.W.callWith_K0 I.kIn M.kp ?_
  have hq := h (s.heap.objs.size + 1) s.heap.objs.size (I.hok.fresh (Nat.le_succ _)) (I.hok.fresh (Nat.le_refl _)) (Nat.ne_of_lt (Nat.lt_succ_self _))
  have I2 := Inv.made (C := C) I
  refine wpAny_call (make_map0 I.kIn M.makes M.init (fun self => PySem.W.Looks.of_pure (PySem.W.oi_bind _)) ?_)
  have ho : ((s.heap.push PySem.W.emptyDict).push (PySem.W.instObj C s.heap.objs.size)).get? (s.heap.objs.size + 1) = some (PySem.W.instObj C s.heap.objs.size) := by
    have := Heap.get?_push_size (s.heap.push PySem.W.emptyDict) (o := PySem.W.instObj C s.heap.objs.size) rfl
    rw [Heap.size_push] at this
    exact this
  have t1 : PySem.W.Looks (model X.prog X.w) ((s.heap.push PySem.W.emptyDict).push (PySem.W.instObj C s.heap.objs.size)) (typeOf (.ref (s.heap.objs.size + 1))) (.ref C) := NwA.type_at ho rfl
  have t2 : PySem.W.Looks (model X.prog X.w) ((s.heap.push PySem.W.emptyDict).push (PySem.W.instObj C s.heap.objs.size)) (isInstance (.ref (s.heap.objs.size + 1)) (.type "object")) true := t1.andThen (PySem.W.looks_mroIn I2.kIn M.top)
  refine codeAny_call_builtin PySem.W.oi_plain PySem.W.entry_oi (@PySem.W.check_slot (model X.prog X.w) _ _ _ "object.__init__" "object" "__init__" (.ref (s.heap.objs.size + 1)) [] [] _ PySem.W.oi_kind PySem.W.oi_split t2 (NwA.oi_args_any _ [] []) ?_)
  rw [PySem.W.oi_run]
  exact wpAny_pure ⟨rfl, .ref (s.heap.objs.size + 1), _, I2, rfl, hq⟩
theorem d_mk0 {T : Tb} {X : Cx} {x : Str} {p pos : Pos} (c : Nat) (M : Mk0 T.K (T.ca c)) (hm : X.mg x = some (.ref (T.ca c))) (hg : Gl X x := by rfl) (hK : X.K = T.K := by rfl) (hdb : (x == ("__debug__" : Str)) = false := by decide) :
    PDe T X (.Call (.Name x p) [] [] pos) (dC (.obj c [] [])) := fun pn xe W tk => by
  rw [← hK] at M
  refine ⟨_, pe_mk0 (X := X.tr pn xe) M hg hm hdb, fun σ H P ι F δ s Q R E post x dx hx hdx ne => ?_⟩
  have R1 := R.new hdx (.own x)
  have g1 : Grow F ι (upd F dx (.own x)) ι := grow_new (R.freeF hdx) _
  have hx1 : upd H dx (.own x) x = none := by rw [upd_ne (Ne.symm ne)]; exact hx
  refine (Post.mono g1 post).new R1 hx1 fun g => ?_
  unfold Rp
  exact ⟨x, dx, [], rfl, upd_same, rfl, .nil⟩
end Mp
/-! # MpK -/
namespace Mp
open PySem PySem.Spec PyProof.Rows L2
section
variable {P : Program} {w : World} {A : Around} {E : Value → Shared → Prop} {s : Shared}
theorem call_set_lstI {l : Addr} {items : Array Value} (ns : List Int) {Q : Value → Shared → Prop} (hh : A.handled = none) (hl : s.heap.IsList l items) (hit : IntsAre items.toList ns) (hb : ns.length + 1 < scanBound)
    (h : ∀ (h' : Heap) (tk c : Nat), SetR w h' s.heap.objs.size (fun j => decide (j ∈ ns)) c → c ≤ ns.length → (∀ b o, s.heap.get? b = some o → h'.get? b = some o) → Q (.ref s.heap.objs.size) { s with heap := h', toks := tk }) :
    wpAny (model P w) A (call (.type "set") [.ref l]) Q E s := by
  have hisz : items.size = ns.length := by
    have q := IntsAre.length hit
    rw [Array.length_toList] at q
    exact q
  obtain ⟨c, tl, hmro⟩ := F.called_set.mro
  have hmade := F.called_set.made
  have hsub := F.called_set.sub
  refine wpAny_call (codeAny_of_tree ?_)
  show wpAny _ _ (callAny (.type "set") _) _ _ _
  refine wpAny_pure ⟨Code.quiet_builtin _ (by decide +kernel), codeAny_builtin F.entry_type_call ?_⟩
  rw [Around.under_plain (weight_type_call_type "set" [.ref l] []) rfl]
  have h1 := F.called_set.notType
  have h2 := F.called_set.canCreate
  have hct := F.typeCall_set_1 (.ref l)
  repeat (any_goals (first | assumption | wp_step))

  refine codeAny_mono (code_set_led1 (.ref l) (E := E) (Q₁ := fun obj s₁ => obj = .ref s.heap.objs.size ∧ s₁ = { s with heap := s.heap.push { cls := .type "set", dict := none, data := .set #[] 0 (.fresh 0 0 (!w.params.followText "set-order")) } }) ⟨rfl, rfl⟩) fun r s₁ hr => ?_
  cases r with
  | error e => exact hr
  | ok fl =>
    cases fl with
    | ret obj =>
      obtain ⟨rfl, rfl⟩ := hr
      have hS : (s.heap.push { cls := .type "set", dict := none, data := .set #[] 0 (.fresh 0 0 (!w.params.followText "set-order")) }).get? s.heap.objs.size = some { cls := .type "set", dict := none, data := .set #[] 0 (.fresh 0 0 (!w.params.followText "set-order")) } := Heap.get?_push_size _ rfl
      have hT : Shared.TypeIs { s with heap := s.heap.push { cls := .type "set", dict := none, data := .set #[] 0 (.fresh 0 0 (!w.params.followText "set-order")) } } (.ref s.heap.objs.size) "set" := ⟨_, hS, rfl⟩
      have hli := F.called_set.init.lookup
      have hbi := F.called_set.init.bind (.ref s.heap.objs.size)
      repeat (any_goals (first | assumption | wp_step))

      refine codeAny_mono (codeAny_call_builtin (R := wants (fun r s₂ => r = .none ∧ ∃ h' tk c, s₂ = { s with heap := h', toks := tk } ∧ SetR w h' s.heap.objs.size (fun j => decide (j ∈ ns)) c ∧ c ≤ ns.length ∧
          (∀ b o, s.heap.get? b = some o → h'.get? b = some o)) E) F.called_set.init.plain F.entry_set_init (check_set_init_1 hT ?_)) fun r₂ s₂ hr₂ => ?_
      · obtain ⟨ol, hol, hcl, nl, hdl⟩ := hl
        obtain ⟨ocls, odict, odata, oslots⟩ := ol
        simp only at hcl hdl
        subst hcl; subst hdl
        have hol' : (s.heap.push { cls := .type "set", dict := none, data := .set #[] 0 (.fresh 0 0 (!w.params.followText "set-order")) }).get? l = some { cls := .type "list", dict := odict, data := .seq items nl, slots := oslots } := Heap.get?_push_of_some _ hol
        have hsls := F.sub_list_set
        have hslf := F.sub_list_frozenset
        have hne : (Value.type "list" == Value.type "dict") = false := by decide
        have hl1 : (s.heap.push { cls := .type "set", dict := none, data := .set #[] 0 (.fresh 0 0 (!w.params.followText "set-order")) }).IsList l items := ⟨_, hol', rfl, nl, rfl⟩
        unfold Builtin.«set.__init__» noKeywords Builtin.Frozenset.updateFrom
        generalize hPI : pyIter = PI
        wp_walk
        subst hPI

        refine wpAny_pyIter_list hl1 ?_
        refine wpAny_bind (wpAny_runValue ?_)
        have hlS : l < s.heap.objs.size := Heap.lt_size hol
        have hh3 : A.in1.in1.in1.handled = none := by simp [hh]
        have hz1 : (s.heap.push { cls := .type "set", dict := none, data := .set #[] 0 (.fresh 0 0 (!w.params.followText "set-order")) }).objs.size = s.heap.objs.size + 1 := Heap.size_push ..
        have hneI : l ≠ (s.heap.push { cls := .type "set", dict := none, data := .set #[] 0 (.fresh 0 0 (!w.params.followText "set-order")) }).objs.size := by
          rw [Heap.size_push]; exact Nat.ne_of_lt (Nat.lt_succ_of_lt hlS)
        have hSf : s.heap.objs.size ∉ [(s.heap.push { cls := .type "set", dict := none, data := .set #[] 0 (.fresh 0 0 (!w.params.followText "set-order")) }).objs.size, l] := by
          rw [Heap.size_push]; simp only [List.mem_cons, List.mem_singleton, List.not_mem_nil, or_false, not_or]
          exact ⟨Nat.ne_of_lt (Nat.lt_succ_self _), Nat.ne_of_gt hlS⟩
        have hval : ∀ (i : Nat) (v : Value), items[i]? = some v → ∃ k t, ns[i]? = some k ∧ v = .int k t := fun i v hv => by
          have hi : i < ns.length := by rw [← hisz]; exact (Array.getElem?_eq_some_iff.mp hv).1
          obtain ⟨t, e⟩ := PyProof.Rows.IntsAre.int_at hit i v (by rw [Array.getElem?_toList]; exact hv)
          refine ⟨ns[i], t, List.getElem?_eq_getElem hi, ?_⟩
          rw [e, List.getD_eq_getElem?_getD, List.getElem?_eq_getElem hi] <;> rfl
        refine set_update_ints ((Walks.list hh3 _ l hneI items).toS) s.heap.objs.size
          hSf ns hisz hb hval (items.size - 0) 0 _ (by omega) (Nat.zero_le _)
          ⟨⟨_, Heap.get?_push_size _ rfl, rfl, rfl⟩, (hl1.push _)⟩ ?hS0 ?hR
        case hS0 =>
          have hget : ((s.heap.push { cls := .type "set", dict := none, data := .set #[] 0 (.fresh 0 0 (!w.params.followText "set-order")) }).push { cls := .type "list_iterator", data := .fields #[.ref l, .int 0 0] }).get? s.heap.objs.size
              = some { cls := .type "set", dict := none, data := .set #[] 0 (.fresh 0 0 (!w.params.followText "set-order")) } := Heap.get?_push_of_some _ hS
          exact ⟨0, Nat.le_refl 0, setR_new_at hget⟩
        case hR =>
          intro s' c' hm hc' hS'
          obtain ⟨h', g2, d', tk', os'⟩ := s'
          have eg : g2 = s.gens := hm.gens
          have ed : d' = s.drawn := hm.drawn
          have eo : os' = s.os := hm.os
          subst eg; subst ed; subst eo
          show wpAny _ _ _ _ _ _
          refine wpAny_pure ?_
          show wpAny _ _ (ret Value.none) _ _ _
          rw [hisz] at hc'
          refine wpAny_pure ⟨rfl, h', tk', c', rfl, hS', hc', fun b o e => ?_⟩
          have hb0 : b < s.heap.objs.size := Heap.lt_size e
          have hb1 : b ≠ s.heap.objs.size := Nat.ne_of_lt hb0
          have hb2 : b ≠ (s.heap.push { cls := .type "set", dict := none, data := .set #[] 0 (.fresh 0 0 (!w.params.followText "set-order")) }).objs.size := by
            rw [Heap.size_push]; exact Nat.ne_of_lt (Nat.lt_succ_of_lt hb0)
          exact hm.heap b o (by simp only [List.mem_cons, List.mem_singleton, List.not_mem_nil, or_false, not_or]; exact ⟨hb1, hb2⟩) (Heap.get?_push_of_some _ (Heap.get?_push_of_some _ e))

      · cases r₂ with
        | error e => exact hr₂
        | ok fl₂ =>
          cases fl₂ with
          | ret r =>
            obtain ⟨rfl, h', tk, c', rfl, hS', hc', hk'⟩ := hr₂
            repeat (any_goals (first | assumption | wp_step))
            exact h _ _ _ hS' hc' hk'
          | _ => exact hr₂.elim
    | _ => exact hr.elim

end

/-! ## sorted(set(e)), e a list of whole numbers -/
def insI (x : Int) : List Int → List Int
  | [] => [x]
  | y :: ys => if x < y then x :: y :: ys else if x = y then y :: ys else y :: insI x ys
def sortI : List Int → List Int
  | [] => []
  | x :: xs => insI x (sortI xs)
theorem mem_insI {x y : Int} : ∀ {ys : List Int}, y ∈ insI x ys ↔ y = x ∨ y ∈ ys
  | [] => by simp [insI]
  | z :: zs => by
    unfold insI
    split
    · simp
    · split
      · rename_i h
        subst h
        simp
      · simp only [List.mem_cons, mem_insI (ys := zs)]
        constructor
        · rintro (h | h | h)
          · exact .inr (.inl h)
          · exact .inl h
          · exact .inr (.inr h)
        · rintro (h | h | h)
          · exact .inr (.inl h)
          · exact .inl h
          · exact .inr (.inr h)
theorem mem_sortI {y : Int} : ∀ {xs : List Int}, y ∈ sortI xs ↔ y ∈ xs
  | [] => by simp [sortI]
  | x :: xs => by
    unfold sortI
    rw [mem_insI, mem_sortI (xs := xs)]
    simp
theorem insI_lt {x : Int} : ∀ {ys : List Int}, ys.Pairwise (· < ·) → (insI x ys).Pairwise (· < ·)
  | [], _ => by simp [insI]
  | y :: ys, h => by
    obtain ⟨h1, h2⟩ := List.pairwise_cons.mp h
    unfold insI
    split
    · rename_i hx
      exact List.pairwise_cons.mpr ⟨fun z hz => by
        rcases List.mem_cons.mp hz with rfl | hz
        · exact hx
        · have := h1 z hz
          omega, h⟩
    · split
      · exact h
      · rename_i hx hne
        refine List.pairwise_cons.mpr ⟨fun z hz => ?_, insI_lt h2⟩
        rcases mem_insI.mp hz with rfl | hz
        · omega
        · exact h1 z hz
theorem sortI_lt : ∀ {xs : List Int}, (sortI xs).Pairwise (· < ·)
  | [] => by simp [sortI]
  | x :: xs => by
    unfold sortI
    exact insI_lt sortI_lt
theorem lt_uniq : ∀ {xs ys : List Int}, xs.Pairwise (· < ·) → ys.Pairwise (· < ·) → (∀ z, z ∈ xs ↔ z ∈ ys) → xs = ys
  | [], [], _, _, _ => rfl
  | [], y :: ys, _, _, h => by have := (h y).mpr List.mem_cons_self; cases this
  | x :: xs, [], _, _, h => by have := (h x).mp List.mem_cons_self; cases this
  | x :: xs, y :: ys, hx, hy, h => by
    obtain ⟨h1, h2⟩ := List.pairwise_cons.mp hx
    obtain ⟨h3, h4⟩ := List.pairwise_cons.mp hy
    have e : x = y := by
      rcases List.mem_cons.mp ((h x).mp List.mem_cons_self) with e | e
      · exact e
      · rcases List.mem_cons.mp ((h y).mpr List.mem_cons_self) with e2 | e2
        · exact e2.symm
        · have a := h3 x e
          have b := h1 y e2
          omega
    subst e
    congr 1
    refine lt_uniq h2 h4 fun z => ⟨fun hz => ?_, fun hz => ?_⟩
    · rcases List.mem_cons.mp ((h z).mp (List.mem_cons_of_mem _ hz)) with e | e
      · have := h1 z hz
        omega
      · exact e
    · rcases List.mem_cons.mp ((h z).mpr (List.mem_cons_of_mem _ hz)) with e | e
      · have := h3 z hz
        omega
      · exact e
def intsOf : List D → Option (List Int)
  | [] => some []
  | .int x :: r => (intsOf r).map (x :: ·)
  | _ => none
theorem ints_ok {T : Tb} {F : Hp} {ι : List Addr} : ∀ {ds : List D} {vs : List V} {ns : List Int}, Rps T F ι ds vs → intsOf ds = some ns → vs = ns.map V.int
  | [], vs, ns, r, e => by unfold Rps at r; subst r; cases e; rfl
  | d :: ds, vs, ns, r, e => by
    unfold Rps at r
    obtain ⟨v, us, rfl, h1, h2⟩ := r
    cases d with
    | int x =>
      have e' : (intsOf ds).map (x :: ·) = some ns := e
      cases q : intsOf ds with
      | none => rw [q] at e'; cases e'
      | some cs =>
        rw [q] at e'
        cases e'
        unfold Rp at h1
        rw [h1, ints_ok h2 q]
        rfl
    | _ => cases e
def tSortedSet (K : PySem.W.Frag) (ta : TE) : TE := fun σ H Q => ta σ H fun x H1 => ∃ (l : Addr) (ns : List Int), x = V.ref l ∧ SqL K H1 l (ns.map V.int) ∧ ns.length < 63 ∧ ∀ p, H1 p = none → Q (.ref p) (upd H1 p (.lst ((sortI ns).map V.int)))
theorem pe_sortedSetI {X : Cx} {a : Expr} {ta : TE} {p p2 q pos : Pos} (hc : X.calm = true) (hg : Gl X "sorted") (hm : X.mg "sorted" = none) (hg2 : Gl X "set") (hm2 : X.mg "set" = none) (ha : PE X a ta)
    (na : starEach [a] X.env = (false, eval a X.env) :: starEach [] X.env := by rfl) : PE X (.Call (.Name "sorted" p) [.Call (.Name "set" p2) [a] [] q] [] pos) (tSortedSet X.K ta) := by
  refine ⟨fun pins s σ H Q I h => ?_⟩
  refine Call_ (ld_blt I hg hm PyProof.Rows.boot_sorted ?_)
  refine PyProof.Rows.callWith_builtin1 (PyProof.Rows.args_cons ?_ rfl) rfl rfl
  refine Call_ (ld_blt I hg2 hm2 PyProof.Rows.boot_set ?_)
  refine PyProof.Rows.callWith_type1 (PyProof.Rows.args_cons (thn (ha.run pins s σ H _ I h) fun v s1 ⟨x, H1, I1, r1, q1⟩ => PyProof.Rows.args_nil ?_) na) na rfl
  obtain ⟨l, ns, rfl, hq, h1, q1⟩ := q1
  cases r1
  obtain ⟨its, r, pl, hz⟩ := I1.list hq
  refine call_set_lstI ns (I1.ok.hd hc) pl.isList (by simpa using r.ints) (by unfold scanBound; omega) fun h' tk c hS hcl hk => ?_
  refine PyProof.Rows.args_nil ?_
  have I2 : Inv X pins σ H1 { s1 with heap := h', toks := tk } := I1.kept fun b o e => hk b o e
  refine sorted_set (s := { s1 with heap := h', toks := tk }) hS (I2.ok.hd hc) (by omega) fun s' p out c2 ns2 k g o hp hg hi hs hm hl => ?_
  have e : ns2 = sortI ns := lt_uniq hs sortI_lt fun z => by
    rw [hm z, mem_sortI]
    exact decide_eq_true_iff
  have hlen : (ns2.map V.int).length ≤ sizeLine := by rw [List.length_map, hl, sizeLine_eq]; omega
  have hn : H1 p = none := I2.hok.fresh hp
  have J : Inv X pins σ (upd H1 p (.lst (ns2.map V.int))) { ({ s1 with heap := h', toks := tk } : Shared) with heap := s'.heap, gens := s'.gens, drawn := s'.drawn, toks := s'.toks } :=
    I2.call (ch := []) (Un.laid k hp hn) (I2.hok.laid k hp ⟨hlen, out.toList, c2, vals_of_ints hi, hg⟩) (by rw [g]; exact I2.bare) (fun _ z => nomatch z)
  have e2 : s' = { s1 with heap := s'.heap, gens := s'.gens, drawn := s'.drawn, toks := s'.toks } := by
    cases s'
    cases s1
    cases o
    rfl
  rw [e2]
  refine ⟨.ref p, _, J, rfl, ?_⟩
  rw [e]
  exact q1 p hn
def dSortedSet (f : DE) : DE := fun δ s => (f δ s).bind fun x s1 => match lqOf s1 x with
  | some xs => match intsOf xs with
    | some ns => if ns.length < 63 then .ok (.lst ((sortI ns).map D.int)) s1 else .stuck
    | none => .stuck
  | none => .stuck
section
variable {T : Tb} {X : Cx}
theorem d_sortedSet {a : Expr} {f : DE} {p p2 q pos : Pos} (hm : X.mg "sorted" = none) (hm2 : X.mg "set" = none) (ha : PDe T X a f) (hg : Gl X "sorted" := by rfl) (hg2 : Gl X "set" := by rfl) (hc : X.calm = true := by rfl) (hK : X.K = T.K := by rfl)
    (na : starEach [a] X.env = (false, eval a X.env) :: starEach [] X.env := by rfl) : PDe T X (.Call (.Name "sorted" p) [.Call (.Name "set" p2) [a] [] q] [] pos) (dSortedSet f) := fun pn xe W tk => by
  obtain ⟨t1, p1, d1⟩ := ha pn xe W tk
  have hK' : (X.tr pn xe).K = T.K := hK
  refine ⟨_, pe_sortedSetI (X := X.tr pn xe) hc hg hm hg2 hm2 p1 na, fun σ H P ι F δ s Q R E post => ?_⟩
  rw [hK']
  show t1 σ H _
  refine den_then d1 R E post fun x y H1 ι1 F1 s1 g1 R1 E1 r1 post1 => ?_
  split at post1
  · rename_i xs hx
    split at post1
    · rename_i ns hn
      split at post1
      · rename_i hl
        obtain ⟨l, vs, rfl, h2, h3⟩ := lq_of R1 r1 hx
        rw [ints_ok h3 hn] at h2
        refine ⟨l, ns, rfl, h2, hl, fun p hp => ?_⟩
        refine post1.new R1 hp fun g => ?_
        unfold Rp
        exact ⟨p, _, rfl, upd_same, rps_ints _⟩
      · exact post1.elim
    · exact post1.elim
  · exact post1.elim
end
/-! ## list(x), tuple(x), sum(xs), max(xs), min(xs) -/
def bList : DB
  | [x], s => match (lqOf s x).or (tpOf x) with
    | some xs => .ok (.lst xs) s
    | none => .stuck
  | _, _ => .stuck
/-- .. as a cell -/
def bListC : DB
  | [x], s => match (lqOf s x).or (tpOf x) with
    | some xs => .ok (.loc s.length) (s ++ [.lst xs])
    | none => .stuck
  | _, _ => .stuck
def bTuple : DB
  | [.tup xs], s => .ok (.tup xs) s
  | [x], s => match lqOf s x with
    | some xs => .ok (.tup xs) s
    | none => .stuck
  | _, _ => .stuck
def bSum : DB
  | [x], s => match (lqOf s x).bind intsOf with
    | some ns => .ok (.int ns.sum) s
    | none => .stuck
  | _, _ => .stuck
def maxI : List Int → Int
  | [] => 0
  | n :: ns => ns.foldl max n
def minI : List Int → Int
  | [] => 0
  | n :: ns => ns.foldl min n
def bMaxL : DB
  | [x], s => match (lqOf s x).bind intsOf with
    | some ns => if ns ≠ [] then .ok (.int (maxI ns)) s else .stuck
    | none => .stuck
  | _, _ => .stuck
def bMinL : DB
  | [x], s => match (lqOf s x).bind intsOf with
    | some ns => if ns ≠ [] then .ok (.int (minI ns)) s else .stuck
    | none => .stuck
  | _, _ => .stuck
theorem foldl_max {m : Int} : ∀ {ns : List Int} {n : Int}, (m = n ∨ m ∈ ns) → n ≤ m → (∀ y ∈ ns, y ≤ m) → ns.foldl max n = m
  | [], n, h, _, _ => by
    rcases h with h | h
    · exact h.symm
    · cases h
  | k :: ns, n, h, h1, h2 => by
    rw [List.foldl_cons]
    have hk := h2 k List.mem_cons_self
    refine foldl_max ?_ (by omega) fun y hy => h2 y (List.mem_cons_of_mem _ hy)
    rcases h with h | h
    · left; omega
    · rcases List.mem_cons.mp h with h | h
      · left; omega
      · exact .inr h
theorem foldl_min {m : Int} : ∀ {ns : List Int} {n : Int}, (m = n ∨ m ∈ ns) → m ≤ n → (∀ y ∈ ns, m ≤ y) → ns.foldl min n = m
  | [], n, h, _, _ => by
    rcases h with h | h
    · exact h.symm
    · cases h
  | k :: ns, n, h, h1, h2 => by
    rw [List.foldl_cons]
    have hk := h2 k List.mem_cons_self
    refine foldl_min ?_ (by omega) fun y hy => h2 y (List.mem_cons_of_mem _ hy)
    rcases h with h | h
    · left; omega
    · rcases List.mem_cons.mp h with h | h
      · left; omega
      · exact .inr h
section
variable {T : Tb}
abbrev rListOf (K : PySem.W.Frag) : List V → Hp → VK → Prop := fun xs H Q => ∃ p ys, xs = [.ref p] ∧ (SqL K H p ys ∨ SqT K H p ys) ∧ ∀ l, H l = none → Q (.ref l) (upd H l (.lst ys))
theorem db_list : DenB T (rListOf T.K) bList := by
  intro ds vs H P ι F s Q E R r post
  unfold bList at post
  split at post
  · obtain ⟨v, rfl, h1⟩ := rps1 r
    split at post
    · rename_i xs h
      obtain ⟨a, us, rfl, h2, h3⟩ := lqtp_of R h1 h
      refine ⟨a, us, rfl, h2, fun l hl => ?_⟩
      refine post.new R hl fun g => ?_
      unfold Rp
      exact ⟨l, _, rfl, upd_same, h3.mono g⟩
    · exact post.elim
  · exact post.elim
theorem db_listC : DenB T (rListOf T.K) bListC := by
  intro ds vs H P ι F s Q E R r post
  unfold bListC at post
  split at post
  · obtain ⟨v, rfl, h1⟩ := rps1 r
    split at post
    · rename_i xs h
      obtain ⟨a, us, rfl, h2, h3⟩ := lqtp_of R h1 h
      refine ⟨a, us, rfl, h2, fun l hl => post_loc post R hl ?_⟩
      exact ⟨R.freeF hl, _, upd_same, h3.mono (grow_app _ _ _)⟩
    · exact post.elim
  · exact post.elim
abbrev rTupleOf (K : PySem.W.Frag) : List V → Hp → VK → Prop := fun xs H Q => ∃ p ys, xs = [.ref p] ∧ ((SqL K H p ys ∧ ∀ l, H l = none → Q (.ref l) (upd H l (.tup ys))) ∨ (SqT K H p ys ∧ Q (.ref p) H))
theorem db_tuple : DenB T (rTupleOf T.K) bTuple := by
  intro ds vs H P ι F s Q E R r post
  unfold bTuple at post
  split at post
  · obtain ⟨v, rfl, h1⟩ := rps1 r
    obtain ⟨a, us, rfl, h2, _, h3⟩ := tp_of R h1
    exact ⟨a, us, rfl, .inr ⟨SqT.of h2, post.here R h1⟩⟩
  · obtain ⟨v, rfl, h1⟩ := rps1 r
    split at post
    · rename_i xs h
      obtain ⟨a, us, rfl, h2, h3⟩ := lq_of R h1 h
      refine ⟨a, us, rfl, .inl ⟨h2, fun l hl => ?_⟩⟩
      refine post.new R hl fun g => ?_
      unfold Rp
      exact ⟨l, _, rfl, upd_same, h3.mono g⟩
    · exact post.elim
  · exact post.elim
theorem ints_at {P : Hp} {ι : List Addr} {F : Hp} {s : Sto} {H : Hp} {x : D} {v : V} {ns : List Int} (R : RelH T P ι F s H) (r : Rp T F ι x v) (h : (lqOf s x).bind intsOf = some ns) : ∃ a, v = .ref a ∧ SqL T.K H a (ns.map V.int) := by
  cases q : lqOf s x with
  | none => rw [q] at h; cases h
  | some xs =>
    rw [q] at h
    obtain ⟨a, us, rfl, h2, h3⟩ := lq_of R r q
    rw [ints_ok h3 h] at h2
    exact ⟨a, rfl, h2⟩
theorem db_sum : DenB T (rSum T.K) bSum := by
  intro ds vs H P ι F s Q E R r post
  unfold bSum at post
  split at post
  · obtain ⟨v, rfl, h1⟩ := rps1 r
    split at post
    · rename_i ns h
      obtain ⟨a, rfl, h2⟩ := ints_at R h1 h
      exact ⟨a, ns, rfl, h2, post.here R (by unfold Rp; rfl)⟩
    · exact post.elim
  · exact post.elim
theorem db_maxL : DenB T (rMax T.K) bMaxL := by
  intro ds vs H P ι F s Q E R r post
  unfold bMaxL at post
  split at post
  · obtain ⟨v, rfl, h1⟩ := rps1 r
    split at post
    · rename_i ns h
      split at post
      · rename_i hne
        obtain ⟨a, rfl, h2⟩ := ints_at R h1 h
        refine ⟨a, ns, rfl, h2, List.length_pos_iff.mpr hne, fun m hm hb => ?_⟩
        cases ns with
        | nil => exact absurd rfl hne
        | cons n ns =>
          have e : maxI (n :: ns) = m := foldl_max (List.mem_cons.mp hm) (hb n List.mem_cons_self) fun y hy => hb y (List.mem_cons_of_mem _ hy)
          rw [e] at post
          exact post.here R (by unfold Rp; rfl)
      · exact post.elim
    · exact post.elim
  · exact post.elim
theorem db_minL : DenB T (rMin T.K) bMinL := by
  intro ds vs H P ι F s Q E R r post
  unfold bMinL at post
  split at post
  · obtain ⟨v, rfl, h1⟩ := rps1 r
    split at post
    · rename_i ns h
      split at post
      · rename_i hne
        obtain ⟨a, rfl, h2⟩ := ints_at R h1 h
        refine ⟨a, ns, rfl, h2, List.length_pos_iff.mpr hne, fun m hm hb => ?_⟩
        cases ns with
        | nil => exact absurd rfl hne
        | cons n ns =>
          have e : minI (n :: ns) = m := foldl_min (List.mem_cons.mp hm) (hb n List.mem_cons_self) fun y hy => hb y (List.mem_cons_of_mem _ hy)
          rw [e] at post
          exact post.here R (by unfold Rp; rfl)
      · exact post.elim
    · exact post.elim
  · exact post.elim
end
/-! ## max(xs, default=d) -/
def rMaxDf (K : PySem.W.Frag) : List V → List V → Hp → VK → Prop := fun xs zs H Q => ∃ (a : Addr) (ns : List Int) (d : Int), xs = [.ref a] ∧ zs = [.int d] ∧ SqL K H a (ns.map V.int) ∧ Q (.int (if ns = [] then d else maxI ns)) H
theorem reads_ints {h : Heap} : ∀ {ns : List Int} {us : List Value}, Vals (ns.map V.int) us → ReadsAll h us (ns.map PyData.int) []
  | [], _, .nil => .nil
  | n :: ns, _, .cons r t => by
    obtain ⟨k, rfl⟩ := r
    exact .cons (.int n k) (reads_ints t)
theorem ints_layK : ∀ ns : List Int, PyData.depthAll (ns.map PyData.int) = 0
  | [] => rfl
  | n :: ns => by
    rw [List.map_cons]
    unfold PyData.depthAll
    rw [ints_layK ns]; rfl
theorem crk_max {X : Cx} (hc : X.calm = true) (hu : X.A.units + 64 < cLine) : CallRK X (.builtin "max") [Str.ofString "default"] (rMaxDf X.K) := by
  intro pins s σ H xs zs us ws Q I r rz h
  obtain ⟨a, ns, d, rfl, rfl, hs, q⟩ := h
  obtain ⟨its, rv, hl, _⟩ := I.list hs
  rw [Vals.ref1 r]
  obtain ⟨wd, rfl, td, rfl⟩ := rz.one
  have dep : PyData.depthAll (ns.map PyData.int) = 0 := (ints_layK ns)
  have hr := reads_ints (h := s.heap) rv
  have alk : PySem.W.AlikeAll (ns.map PyData.int) := ⟨fun x hx y hy => by
    obtain ⟨i, _, rfl⟩ := List.mem_map.mp hx
    obtain ⟨j, _, rfl⟩ := List.mem_map.mp hy
    rfl, fun x hx => by
    obtain ⟨i, _, rfl⟩ := List.mem_map.mp hx
    intro z; cases z⟩
  show wpAny _ _ (call (.builtin "max") [.ref a] [(Str.ofString "default", Value.int d td)]) _ _ _
  refine PySem.W.max_list_default (I.ok.hd hc) hl.isList (by rw [List.toList_toArray]; exact hr) alk (by rw [dep]; omega) (fun e h' tk hk => ?_) (fun y ys i v h' tk bs e hv rd hk => ?_)
  · have e0 : ns = [] := by simpa using e
    rw [if_pos e0] at q
    exact ⟨.int d, H, I.kept hk, ⟨_, rfl⟩, q⟩
  · cases ns with
    | nil => cases e
    | cons n ns =>
      rw [List.map_cons] at e
      injection e with e1 e2
      subst e1 e2
      rw [PySem.W.maxD_ints] at rd
      rw [if_neg (by simp)] at q
      cases rd with
      | int i t => exact ⟨.int _, H, I.kept hk, ⟨_, rfl⟩, q⟩
end Mp
/-! # MpL -/
namespace Mp
open PySem PySem.Spec PyProof.Rows L2
/-! ## a list cell is walked: meanwhile nobody may touch it -/
section
variable {T : Tb} {P : Hp} {ι : List Addr} {F : Hp} {s : Sto} {H : Hp}
theorem RelH.hold (R : RelH T P ι F s H) {n : Nat} {a : Addr} {xs : List D} (hs : s[n]? = some (.lst xs)) (hi : ι[n]? = some a) : ∃ vs, H a = some (.lst vs) ∧ Rps T F ι xs vs ∧ F a = none ∧ P a = none ∧ RelH T (upd P a (.lst vs)) ι F (s.set n .dead) H := by
  obtain ⟨hF, vs, h1, h2⟩ := R.cell _ _ _ hs hi
  have hP := R.npr _ _ _ hs rfl hi
  have hn := (List.getElem?_eq_some_iff.mp hs).1
  have at_ : ∀ {m : Nat} {d : Cell}, (s.set n .dead)[m]? = some d → d.live = true → m ≠ n ∧ s[m]? = some d := fun {m d} h l => by
    by_cases e : n = m
    · subst e
      rw [List.getElem?_set_self hn] at h
      cases h
      cases l
    · rw [List.getElem?_set_ne e] at h
      exact ⟨fun z => e z.symm, h⟩
  have ne : ∀ {m : Nat} {d : Cell} {b : Addr}, (s.set n .dead)[m]? = some d → d.live = true → ι[m]? = some b → b ≠ a := fun {m d b} h l hb z => by
    subst z
    obtain ⟨h3, h4⟩ := at_ h l
    exact h3 (R.nod m n d _ b h4 hs l rfl hb hi)
  refine ⟨vs, h1, h2, hF, hP, ⟨R.sub, fun b u h => ?_, fun b u h => ?_, by simp [R.len], fun m d b h3 h4 => ?_, fun m d b h3 l h4 => ?_, fun m k c1 c2 b h3 h4 l1 l2 h5 h6 => R.nod m k c1 c2 b (at_ h3 l1).2 (at_ h4 l2).2 l1 l2 h5 h6⟩⟩
  · by_cases e : b = a
    · subst e; rw [upd_same] at h; cases h; exact h1
    · rw [upd_ne e] at h; exact R.pro b u h
  · by_cases e : b = a
    · subst e; exact hF
    · rw [upd_ne e] at h; exact R.dis b u h
  · cases hd : d.live with
    | false =>
      cases d with
      | dead => trivial
      | _ => cases hd
    | true => exact R.cell m d b (at_ h3 hd).2 h4
  · rw [upd_ne (ne h3 l h4)]; exact R.npr m d b (at_ h3 l).2 l h4
/-- .. and it is back -/
theorem RelH.back {vs : List V} {xs : List D} {n : Nat} {a : Addr} (R : RelH T (upd P a (.lst vs)) ι F s H) (hP : P a = none) (hs : s[n]? = some .dead) (hi : ι[n]? = some a) (r : Rps T F ι xs vs) : RelH T P ι F (s.set n (.lst xs)) H := by
  have hn := (List.getElem?_eq_some_iff.mp hs).1
  have hH : H a = some (.lst vs) := R.pro a _ upd_same
  have hF : F a = none := R.dis a _ upd_same
  have at_ : ∀ {m : Nat} {d : Cell}, (s.set n (.lst xs))[m]? = some d → (m = n ∧ d = .lst xs) ∨ (m ≠ n ∧ s[m]? = some d) := fun {m d} h => by
    by_cases e : n = m
    · subst e
      rw [List.getElem?_set_self hn] at h
      exact .inl ⟨rfl, (Option.some.inj h).symm⟩
    · rw [List.getElem?_set_ne e] at h
      exact .inr ⟨fun z => e z.symm, h⟩
  have hio : ∀ {b : Addr}, ι[n]? = some b → b = a := fun {b} h => by rw [hi] at h; exact (Option.some.inj h).symm
  have ne : ∀ {m : Nat} {d : Cell} {b : Addr}, s[m]? = some d → d.live = true → ι[m]? = some b → b ≠ a := fun {m d b} h l hb z => by
    subst z
    have := R.npr m d b h l hb
    rw [upd_same] at this
    cases this
  refine ⟨R.sub, fun b u h => R.pro b u (by rw [upd_ne (ne_of_none h hP)]; exact h), fun b u h => R.dis b u (by rw [upd_ne (ne_of_none h hP)]; exact h), by simp [R.len], fun m d b h1 h2 => ?_, fun m d b h1 l h2 => ?_, fun m k c1 c2 b h1 h2 l1 l2 h3 h4 => ?_⟩
  · rcases at_ h1 with ⟨rfl, rfl⟩ | ⟨hm, h1⟩
    · rw [hio h2]; exact ⟨hF, vs, hH, r⟩
    · exact R.cell m d b h1 h2
  · rcases at_ h1 with ⟨rfl, rfl⟩ | ⟨hm, h1⟩
    · rw [hio h2]; exact hP
    · have := R.npr m d b h1 l h2
      rw [upd_ne (ne h1 l h2)] at this
      exact this
  · rcases at_ h1 with ⟨e1, f1⟩ | ⟨hm, k1⟩
    · rcases at_ h2 with ⟨e2, f2⟩ | ⟨hk, k2⟩
      · rw [e1, e2]
      · exact absurd (hio (e1 ▸ h3)) (ne k2 l2 h4)
    · rcases at_ h2 with ⟨e2, f2⟩ | ⟨hk, k2⟩
      · exact absurd (hio (e2 ▸ h4)) (ne k1 l1 h3)
      · exact R.nod m k c1 c2 b k1 k2 l1 l2 h3 h4
end
/-- a store with the cell back -/
def bkS (n : Nat) (xs : List D) (s : Sto) : Option Sto := match s[n]? with
  | some .dead => some (s.set n (.lst xs))
  | _ => none
def Out.back (n : Nat) (xs : List D) : Out → Out
  | .nx δ s => match bkS n xs s with | some s' => .nx δ s' | none => .stuck
  | .bk δ s => match bkS n xs s with | some s' => .bk δ s' | none => .stuck
  | .ct δ s => match bkS n xs s with | some s' => .ct δ s' | none => .stuck
  | .rt d s => match bkS n xs s with | some s' => .rt d s' | none => .stuck
  | .ex c δ s => match bkS n xs s with | some s' => .ex c δ s' | none => .stuck
  | .stuck => .stuck
def Res.back {α : Type} (n : Nat) (xs : List D) : Res α → Res α
  | .ok d s => match bkS n xs s with | some s' => .ok d s' | none => .stuck
  | .exc c s => match bkS n xs s with | some s' => .exc c s' | none => .stuck
  | .stuck => .stuck
section
variable {T : Tb}
theorem bk_ok {P : Hp} {ι0 ι : List Addr} {F0 F : Hp} {s s' : Sto} {H : Hp} {vs : List V} {xs : List D} {n : Nat} {a : Addr} (g : Grow F0 ι0 F ι) (R : RelH T (upd P a (.lst vs)) ι F s H) (hP : P a = none) (hi : ι0[n]? = some a) (r : Rps T F0 ι0 xs vs) (h : bkS n xs s = some s') : RelH T P ι F s' H := by
  unfold bkS at h
  split at h
  · rename_i hs
    cases h
    exact R.back hP hs (g.at hi) (r.mono g)
  · cases h
theorem posts_back {P : Hp} {En : Ends} {W : WX} {F : Hp} {ι : List Addr} {vs : List V} {xs : List D} {n : Nat} {a : Addr} {o : Out} (hP : P a = none) (hi : ι[n]? = some a) (r : Rps T F ι xs vs) (post : PostS T P En W F ι (o.back n xs)) : PostS T (upd P a (.lst vs)) En W F ι o := by
  cases o with
  | stuck => exact post
  | nx δ s =>
    unfold Out.back at post; dsimp only at post
    cases q : bkS n xs s with
    | none => rw [q] at post; exact post.elim
    | some s' => rw [q] at post; exact fun σ' H' ι' F' g R E => post σ' H' ι' F' g (bk_ok g R hP hi r q) E
  | bk δ s =>
    unfold Out.back at post; dsimp only at post
    cases q : bkS n xs s with
    | none => rw [q] at post; exact post.elim
    | some s' => rw [q] at post; exact fun σ' H' ι' F' g R E => post σ' H' ι' F' g (bk_ok g R hP hi r q) E
  | ct δ s =>
    unfold Out.back at post; dsimp only at post
    cases q : bkS n xs s with
    | none => rw [q] at post; exact post.elim
    | some s' => rw [q] at post; exact fun σ' H' ι' F' g R E => post σ' H' ι' F' g (bk_ok g R hP hi r q) E
  | rt d s =>
    unfold Out.back at post; dsimp only at post
    cases q : bkS n xs s with
    | none => rw [q] at post; exact post.elim
    | some s' => rw [q] at post; exact fun v H' ι' F' g R rv => post v H' ι' F' g (bk_ok g R hP hi r q) rv
  | ex c δ s =>
    unfold Out.back at post; dsimp only at post
    cases q : bkS n xs s with
    | none => rw [q] at post; exact post.elim
    | some s' => rw [q] at post; exact fun σ' H' ι' F' g R E => post σ' H' ι' F' g (bk_ok g R hP hi r q) E
theorem post_back {α β : Type} {Rl : Hp → List Addr → α → β → Prop} {P : Hp} {Q : β → Hp → Prop} {E : Nat → Hp → Prop} {F : Hp} {ι : List Addr} {vs : List V} {xs : List D} {n : Nat} {a : Addr} {o : Res α} (hP : P a = none) (hi : ι[n]? = some a) (r : Rps T F ι xs vs) (post : Post T P Rl Q E F ι (o.back n xs)) : Post T (upd P a (.lst vs)) Rl Q E F ι o := by
  cases o with
  | stuck => exact post
  | ok d s =>
    unfold Res.back at post; dsimp only at post
    cases q : bkS n xs s with
    | none => rw [q] at post; exact post.elim
    | some s' => rw [q] at post; exact fun v H' ι' F' g R rv => post v H' ι' F' g (bk_ok g R hP hi r q) rv
  | exc c s =>
    unfold Res.back at post; dsimp only at post
    cases q : bkS n xs s with
    | none => rw [q] at post; exact post.elim
    | some s' => rw [q] at post; exact fun H' ι' F' g R => post H' ι' F' g (bk_ok g R hP hi r q)
end
/-! ## for, comprehensions over a list cell: the walk goes by the heap that stays, the protected part among it -/
def WalksP (T : Tb) (J : It) (ds : List D) (P F : Hp) (ι : List Addr) : Prop :=
  L2.Walk J ds.length (fun H => (∀ a o, F a = some o → H a = some o) ∧ ∀ a o, P a = some o → H a = some o) fun i H x H2 => ∃ d, ds[i]? = some d ∧
    ((H2 = H ∧ Rp T F ι d x) ∨ ∃ p vs xs, x = .ref p ∧ H p = none ∧ H2 = upd H p (.tup vs) ∧ d = .tup xs ∧ Rps T F ι xs vs)
theorem Walks.toP {T : Tb} {J : It} {ds : List D} {F : Hp} {ι : List Addr} (P : Hp) (w : Walks T J ds F ι) : WalksP T J ds P F ι := Walk.mono w (fun H h => h.1) fun _ _ _ _ _ _ y => y
theorem walksP_cell {T : Tb} {P F : Hp} {ι : List Addr} {a : Addr} {vs : List V} {ds : List D} (h : P a = some (.lst vs)) (r : Rps T F ι ds vs) : WalksP T (Itl T.K a) ds P F ι := by
  have w : L2.Walk (Itl T.K a) vs.length (fun H => SqL T.K H a vs) (YAt vs) := walk_list
  unfold WalksP
  rw [r.len]
  refine w.mono (fun H hF => SqL.of (hF.2 _ _ h)) fun i H x H' hi hF y => ?_
  obtain ⟨e1, e2⟩ := y
  have hi' : i < ds.length := by rw [r.len]; exact hi
  obtain ⟨d, hd⟩ := get_lt hi'
  obtain ⟨v, h1, h2⟩ := r.get hd
  rw [e2] at h1
  cases h1
  exact ⟨d, hd, .inl ⟨e1, h2⟩⟩
section
variable {T : Tb}
/-- the turns of a for, whatever was walked -/
theorem for_run {W : WX} {g : TG} {ws : List Nat} {t : DTg} {tb : TS} {body : DS} (hg : DenT T ws g t) (hb : DenS T W tb body) {J : It} {ds : List D} {En : Ends} {σ : L2.St} {H1 P : Hp} {ι1 : List Addr} {F1 : Hp} {δ : Env} {s1 : Sto} (w : WalksP T J ds P F1 ι1) (R1 : RelH T P ι1 F1 s1 H1) (E1 : REnv T F1 ι1 δ σ)
    (post1 : PostS T P En W F1 ι1 (forL t body ds δ s1)) :
    ∃ W' : Nat → Nat → L2.St → Hp → Prop, (∃ m, W' 0 m σ H1) ∧ ∀ i m σ H, W' i m σ H →
      (J.stop i H ∧ En.nx σ H) ∨ (J.go i H ∧ ∃ N : L2.St → Hp → Prop, (∀ σ' H', N σ' H' → ∃ m', m' < m ∧ W' (i + 1) m' σ' H') ∧ ∀ x H', J.yld i H x H' → g x σ H' fun σ2 H2 => tb { En with nx := N, ct := N, bk := En.nx } σ2 H2) := by
  refine for_it w (fun i σ' H' => ∃ ι' F' δ' s', Grow F1 ι1 F' ι' ∧ RelH T P ι' F' s' H' ∧ REnv T F' ι' δ' σ' ∧ PostS T P En W F' ι' (forL t body (ds.drop i) δ' s')) ⟨ι1, F1, δ, s1, Grow.refl _ _, R1, E1, by simpa using post1⟩ ?_ ?_ ?_
  · rintro i σ' H' _ ⟨ι', F', δ', s', g', R', E', _⟩
    exact ⟨fun a o h => R'.sub _ _ (g'.1 _ _ h), fun a o h => R'.pro _ _ h⟩
  · rintro i x σ' H' H2 hi ⟨ι', F', δ', s', g', R', E', post'⟩ ⟨d, hd, y⟩
    obtain ⟨F2, g2, R2, r2⟩ := item_ok g' R' y
    rw [drop_get hd] at post'
    unfold forL at post'
    cases q : t d δ' with
    | none => rw [q] at post'; exact post'.elim
    | some δ1 =>
      rw [q] at post'
      dsimp only at post'
      refine hg _ _ _ _ _ _ _ _ _ _ _ R2 (E'.mono g2) r2 q fun σ2 E2 _ => ?_
      refine hb _ _ _ _ _ _ _ _ R2 E2 ?_
      cases qb : body δ1 s' with
      | nx δ2 s2 =>
        rw [qb] at post'
        exact fun σ3 H3 ι3 F3 g3 R3 E3 => ⟨ι3, F3, δ2, s2, (g'.trans g2).trans g3, R3, E3, post'.mono (g2.trans g3)⟩
      | ct δ2 s2 =>
        rw [qb] at post'
        exact fun σ3 H3 ι3 F3 g3 R3 E3 => ⟨ι3, F3, δ2, s2, (g'.trans g2).trans g3, R3, E3, post'.mono (g2.trans g3)⟩
      | bk δ2 s2 => rw [qb] at post'; exact post'.mono g2
      | rt d2 s2 => rw [qb] at post'; exact post'.mono g2
      | ex c δ2 s2 => rw [qb] at post'; exact post'.mono g2
      | stuck => rw [qb] at post'; exact post'.elim
  · rintro σ' H' ⟨ι', F', δ', s', g', R', E', post'⟩
    rw [List.drop_length] at post'
    exact post' σ' H' ι' F' (Grow.refl _ _) R' E'
/-- for x in o, o a list, a tuple, a text, or a list cell -/
def sForA (f : DE) (t : DTg) (body : DS) : DS := fun δ s => (f δ s).out δ fun x s1 => match x with
  | .loc n => match s1[n]? with
    | some (.lst xs) => (forL t body xs δ (s1.set n .dead)).back n xs
    | _ => .stuck
  | .lst xs => forL t body xs δ s1
  | .scr ns => forL t body (ns.map D.int) δ s1
  | .tup xs => forL t body xs δ s1
  | .str z => forL t body (z.map fun c => D.str [c]) δ s1
  | _ => .stuck
theorem s_forA {X : Cx} {tg iter : Expr} {body : List Stmt} {pos : Pos} {f : DE} {ws : List Nat} {t : DTg} {g : DS} (hi : PDe T X iter f) (hg : PDg T X tg ws t) (hb : PDb T X body g) (hc : X.calm = true := by rfl) (hs : ∀ x, foldedSetIterable iter X.env x = pure x := by intro _; rfl) (hK : X.K = T.K := by rfl) :
    PDs T X (.For tg iter body [] pos) (sForA f t g) := fun pn xe W tk ow => by
  obtain ⟨t1, p1, d1⟩ := hi pn xe W tk
  obtain ⟨g1, p2, d2⟩ := hg pn xe
  obtain ⟨tb, p3, d3⟩ := hb pn xe W tk ow
  have hK' : (X.tr pn xe).K = T.K := hK
  have wi : PI (X.tr pn xe) tg iter (fun σ H R => (iList T.K t1 σ H R ∨ iTup T.K t1 σ H R) ∨ iStr t1 σ H R) := by
    have := PI.or (PI.or (pi_list (X := X.tr pn xe) (tg := tg) p1) (pi_tup p1)) (pi_str p1)
    rw [hK'] at this
    exact this
  refine ⟨_, ps_for (X := X.tr pn xe) ow hc wi p2 p3 hs, fun En σ H P ι F δ s R E post => ?_⟩
  have post0 : PostS T P En W F ι ((f δ s).out δ fun x s1 => match x with
    | .loc n => match s1[n]? with
      | some (.lst xs) => (forL t g xs δ (s1.set n .dead)).back n xs
      | _ => .stuck
    | .lst xs => forL t g xs δ s1
    | .scr ns => forL t g (ns.map D.int) δ s1
    | .tup xs => forL t g xs δ s1
    | .str z => forL t g (z.map fun c => D.str [c]) δ s1
    | _ => .stuck) := post
  cases e : f δ s with
  | stuck => rw [e] at post0; exact post0.elim
  | exc k s1 =>
    rw [e] at post0
    refine .inl (.inl ?_)
    show t1 σ H _
    refine d1 σ H P ι F δ s _ R E ?_
    rw [e]
    exact fun H' ι' F' g R' => post0 σ H' ι' F' g R' (E.mono g)
  | ok x s1 =>
    rw [e] at post0
    have run : ∀ {G : V → Hp → Prop}, (∀ v H' ι' F', Grow F ι F' ι' → RelH T P ι' F' s1 H' → Rp T F' ι' x v → G v H') → t1 σ H G := fun {G} h => by
      refine d1 σ H P ι F δ s G R E ?_
      rw [e]
      exact h
    cases x with
    | lst xs =>
      refine .inl (.inl ?_)
      show t1 σ H _
      refine run fun v H1 ι1 F1 g1 R1 r1 => ?_
      unfold Rp at r1
      obtain ⟨a, vs, rfl, h1, h2⟩ := r1
      exact ⟨a, rfl, ⟨vs, SqL.of (R1.sub _ _ h1)⟩, for_run d2 d3 ((walks_list (SqL.of h1) h2).toP P) R1 (E.mono g1) (PostS.mono g1 post0)⟩
    | scr ns =>
      refine .inl (.inl ?_)
      show t1 σ H _
      refine run fun v H1 ι1 F1 g1 R1 r1 => ?_
      unfold Rp at r1
      obtain ⟨a, rfl, h1⟩ := r1
      exact ⟨a, rfl, ⟨_, sql_mono R1.sub h1⟩, for_run d2 d3 ((walks_list h1 (rps_ints ns)).toP P) R1 (E.mono g1) (PostS.mono g1 post0)⟩
    | tup xs =>
      refine .inl (.inr ?_)
      show t1 σ H _
      refine run fun v H1 ι1 F1 g1 R1 r1 => ?_
      obtain ⟨a, vs, rfl, h1, h0, h2⟩ := tp_of R1 r1
      exact ⟨a, rfl, ⟨vs, SqT.of h1⟩, for_run d2 d3 ((walks_tup h0 h2).toP P) R1 (E.mono g1) (PostS.mono g1 post0)⟩
    | str z =>
      refine .inr ?_
      show t1 σ H _
      refine run fun v H1 ι1 F1 g1 R1 r1 => ?_
      unfold Rp at r1
      exact ⟨S z, r1, for_run d2 d3 ((walks_str z).toP P) R1 (E.mono g1) (PostS.mono g1 post0)⟩
    | loc n =>
      refine .inl (.inl ?_)
      show t1 σ H _
      refine run fun v H1 ι1 F1 g1 R1 r1 => ?_
      have post1 : PostS T P En W F ι (match s1[n]? with
        | some (.lst xs) => (forL t g xs δ (s1.set n .dead)).back n xs
        | _ => .stuck) := post0
      unfold Rp at r1
      obtain ⟨a, e1, rfl⟩ := r1
      split at post1
      · rename_i xs hs1
        obtain ⟨vs, h1, h2, h3, h4, R2⟩ := R1.hold hs1 e1
        refine ⟨a, rfl, ⟨vs, SqL.of h1⟩, for_run d2 d3 (walksP_cell (P := upd P a (.lst vs)) upd_same h2) R2 (E.mono g1) (posts_back h4 e1 h2 (PostS.mono g1 post1))⟩
      · exact post1.elim
    | _ => exact post0.elim
end
end Mp
/-! # MpM -/
namespace Mp
open PySem PySem.Spec PyProof.Rows L2
/-! ## the head's Bools: methods by the table, classes without an __init__, isinstance -/
def moB (l : List (Str × Str × Str)) (K : PySem.W.Frag) : Bool := l.all fun q => decide (PySem.W.findIn K (.ref (He.ga K q.1)) q.2.1 = some (some (.ref (He.ma K (He.ga K q.2.2) q.2.1)))) && (PySem.W.isFn K (.ref (He.ma K (He.ga K q.2.2) q.2.1)) && PySem.W.keepIn K (.ref (He.ma K (He.ga K q.2.2) q.2.1)))
theorem mo_ok {l : List (Str × Str × Str)} {K : PySem.W.Frag} (h : moB l K = true) {c m b : Str} (hm : (c, m, b) ∈ l) : Meth K (He.ga K c) m (He.ma K (He.ga K b) m) := by
  unfold moB at h
  have z := List.all_eq_true.mp h _ hm
  simp only [Bool.and_eq_true, decide_eq_true_eq] at z
  exact ⟨z.1, z.2.1, z.2.2⟩
def mk0B (l : List Str) (K : PySem.W.Frag) : Bool := l.all fun c => PySem.W.makesIn K (He.ga K c) && (decide (PySem.W.findIn K (.ref (He.ga K c)) "__init__" = some (some (.builtin "object.__init__"))) && (decide (PySem.W.mroIn K (He.ga K c) (.type "object") = some true) && PySem.W.keepIn K (.ref (He.ga K c))))
theorem mk0_ok {l : List Str} {K : PySem.W.Frag} (h : mk0B l K = true) {c : Str} (hm : c ∈ l) : Mk0 K (He.ga K c) := by
  unfold mk0B at h
  have z := List.all_eq_true.mp h _ hm
  simp only [Bool.and_eq_true, decide_eq_true_eq] at z
  exact ⟨z.1, z.2.1, z.2.2.1, z.2.2.2⟩
abbrev kiTy : List String := ["NoneType", "bool", "int", "str", "list", "tuple", "dict"]
def kiB (ca : PySem.W.Frag → Nat → Addr) (par : List Nat) (cs : List Nat) (K : PySem.W.Frag) : Bool :=
  cs.all fun d => (cs.all fun c => decide (PySem.W.kitOne K (.ref (ca K c)) (.ref (ca K d)) = some (ancF par par.length c d))) && kiTy.all fun t => decide (PySem.W.kitOne K (.type t) (.ref (ca K d)) = some false)
structure KiT (K : PySem.W.Frag) (ca : Nat → Addr) (par : List Nat) (cs : List Nat) : Prop where
  own : ∀ c ∈ cs, ∀ d ∈ cs, PySem.W.kitOne K (.ref (ca c)) (.ref (ca d)) = some (ancF par par.length c d)
  ty : ∀ t ∈ kiTy, ∀ d ∈ cs, PySem.W.kitOne K (.type t) (.ref (ca d)) = some false
theorem kiT_of {ca : PySem.W.Frag → Nat → Addr} {par cs : List Nat} {K : PySem.W.Frag} (h : kiB ca par cs K = true) : KiT K (ca K) par cs := by
  unfold kiB at h
  rw [List.all_eq_true] at h
  refine ⟨fun c hc d hd => ?_, fun t ht d hd => ?_⟩
  · have z := h d hd
    rw [Bool.and_eq_true] at z
    exact of_decide_eq_true (List.all_eq_true.mp z.1 c hc)
  · have z := h d hd
    rw [Bool.and_eq_true] at z
    exact of_decide_eq_true (List.all_eq_true.mp z.2 t ht)
section
variable {T : Tb} {X : Cx}
/-! ## isinstance, own classes among -/
def bIsO (parT par cs : List Nat) : DB := fun ds s => match ds with
  | [.exc k, c] => bIsA parT [.exc k, c] s
  | [x, .cls d] => if d ∈ cs then match obOf s x with
    | some (c, _, _) => if c ∈ cs then .ok (.bl (ancF par par.length c d)) s else .stuck
    | none => match tyOf s x with
      | some t => if t ∈ kiTy then .ok (.bl false) s else .stuck
      | none => .stuck
    else .stuck
  | ds => bIsA parT ds s
theorem db_isO {parT par cs : List Nat} {nF n1 : Nat} (x1 : ExT T.K T.ca parT n1) (ob : ObT T.K T.ca T.fm cs nF) (ki : KiT T.K T.ca par cs) : DenB T (rIsA T.K) (bIsO parT par cs) := by
  intro ds vs H P ι F s Q E R r post
  unfold bIsO at post
  split at post
  · exact db_isA x1 _ _ _ _ _ _ _ _ _ R r post
  · obtain ⟨v, u, rfl, h1, h2⟩ := rps2 r
    unfold Rp at h2
    subst h2
    split at post
    · rename_i hd
      split at post
      · rename_i c ns us q
        split at post
        · rename_i hc
          obtain ⟨a, dx, fs, rfl, h3, _, _⟩ := ob_of R h1 q
          exact .inl ⟨_, _, _, _, _, rfl, .own _, .base (.ins h3 (ob.cls c hc) (ob.ha c hc) ob.hn ob.htk (ob.hm c hc)), ki.own c hc _ hd, post.here R (by unfold Rp; rfl)⟩
        · exact post.elim
      · split at post
        · rename_i t ht
          split at post
          · rename_i hk
            exact .inl ⟨_, _, _, _, _, rfl, .own _, ty_ok R h1 ht, ki.ty _ hk _ hd, post.here R (by unfold Rp; rfl)⟩
          · exact post.elim
        · exact post.elim
    · exact post.elim
  · exact db_isA x1 _ _ _ _ _ _ _ _ _ R r post
/-! ## a cell that was just made stays as it is -/
def frzL (n : Nat) : Res D → Res D
  | .ok (.loc m) s2 => match s2[n]? with
    | some (.lst xs) => if (decide (m = n) && (decide (s2.length = n + 1) && (belows n xs && (s2.take n).all (Cell.below n)))) = true then .ok (.lst xs) (s2.take n) else .stuck
    | _ => .stuck
  | .exc k s2 => cutX n k s2
  | _ => .stuck
theorem post_frzL {P : Hp} {ι : List Addr} {F : Hp} {s : Sto} {H : Hp} {Q : VK} {E : Nat → Hp → Prop} {r : Res D} (R : RelH T P ι F s H) (post : Post T P (Rp T) Q E F ι (frzL s.length r)) : Post T P (Rp T) Q E F ι r := by
  cases r with
  | stuck => exact post
  | exc k s2 =>
    have post' : Post T P (Rp T) Q E F ι (cutX s.length k s2) := post
    unfold cutX at post'
    split at post'
    · exact post'
    · split at post'
      · rename_i hb
        simp only [Bool.and_eq_true, decide_eq_true_eq] at hb
        exact fun H' ι' F' g R' => post' H' _ F' (takeG g R.len) (R'.cut hb.2)
      · exact post'.elim
  | ok d s2 =>
    cases d with
    | loc m =>
      unfold frzL at post
      dsimp only at post
      split at post
      · rename_i xs hs
        split at post
        · rename_i hb
          simp only [Bool.and_eq_true, decide_eq_true_eq] at hb
          obtain ⟨rfl, hb1, hb2, hb3⟩ := hb
          intro v H' ι' F' g R' rv
          unfold Rp at rv
          obtain ⟨a, e1, rfl⟩ := rv
          obtain ⟨h1, fs, h2, h4⟩ := R'.cell _ _ _ hs e1
          have R2 := R'.freeze hs rfl e1 h1 h2
          have g2 : Grow F' ι' (upd F' a (.lst fs)) ι' := grow_new h1 _
          have e3 : (s2.set s.length .dead).take s.length = s2.take s.length := by
            rw [List.take_set, List.set_eq_of_length_le (by rw [List.length_take]; omega)]
          have R3 := R2.cut (n := s.length) (by rw [e3]; exact hb3)
          rw [e3] at R3
          refine post (.ref a) H' _ _ (takeG (g.trans g2) R.len) R3 ?_
          unfold Rp
          exact ⟨a, fs, rfl, upd_same, (h4.mono g2).takeI hb2⟩
        · exact post.elim
      · exact post.elim
    | _ => exact post.elim
def dFrz (f : DE) : DE := fun δ s => frzL s.length (f δ s)
theorem d_frz {e : Expr} {f : DE} (h : PDe T X e f) : PDe T X e (dFrz f) := fun pn xe W tk => by
  obtain ⟨t1, p1, d1⟩ := h pn xe W tk
  exact ⟨t1, p1, fun σ H P ι F δ s Q R E post => d1 σ H P ι F δ s Q R E (post_frzL R post)⟩
/-- list + list, as a cell -/
def oAddC : DOp := fun x y s => match lsOf s x, lsOf s y with
  | some a, some b => if a.length + b.length ≤ lim then .ok (.loc s.length) (s ++ [.lst (a ++ b)]) else .stuck
  | _, _ => .stuck
theorem do_addC : DenOp T (rAddA T.K) oAddC := by
  intro x y dx dy H P ι F s Q E R rx ry post
  unfold oAddC at post
  split at post
  · rename_i a b h1 h2
    obtain ⟨p, vs, rfl, e1, e2⟩ := ls_of R rx h1
    obtain ⟨q, us, rfl, e3, e4⟩ := ls_of R ry h2
    split at post
    · rename_i hl
      refine .inr (.inr (.inl ⟨p, q, vs, us, rfl, rfl, e1, e3, by rw [← e2.len, ← e4.len]; exact lim_le hl, fun l hl => post_loc post R hl ?_⟩))
      exact ⟨R.freeF hl, _, upd_same, (e2.app e4).mono (grow_app _ _ _)⟩
    · exact post.elim
  · exact post.elim
/-! ## list.clear, .reverse, .pop -/
def mClear : DM
  | .loc n, [], s => match s[n]? with
    | some (.lst _) => .ok .non (s.set n (.lst []))
    | _ => .stuck
  | _, _, _ => .stuck
theorem dm_clear : DenM T rClear mClear := by
  intro d ds v vs H P ι F s Q E R r rs post
  unfold mClear at post
  split at post
  · rename_i n
    cases (show vs = [] by unfold Rps at rs; exact rs)
    unfold Rp at r
    obtain ⟨a, e1, rfl⟩ := r
    split at post
    · rename_i xs hs
      obtain ⟨h2, us, h3, h4⟩ := lc_of R hs e1
      refine ⟨a, us, rfl, rfl, h3, ?_⟩
      exact post .non _ ι F (Grow.refl _ _) (R.setC hs rfl e1 ⟨h2, _, upd_same, .nil⟩) (by unfold Rp; rfl)
    · exact post.elim
  · exact post.elim
theorem Rps.rev {F : Hp} {ι : List Addr} : ∀ {ds : List D} {vs : List V}, Rps T F ι ds vs → Rps T F ι ds.reverse vs.reverse
  | [], vs, h => by unfold Rps at h; subst h; exact .nil
  | d :: ds, vs, h => by
    unfold Rps at h
    obtain ⟨v, us, rfl, h1, h2⟩ := h
    rw [List.reverse_cons, List.reverse_cons]
    exact (Rps.rev h2).app (.cons h1 .nil)
def mReverse : DM
  | .loc n, [], s => match s[n]? with
    | some (.lst xs) => .ok .non (s.set n (.lst xs.reverse))
    | _ => .stuck
  | _, _, _ => .stuck
theorem dm_reverse : DenM T rReverse mReverse := by
  intro d ds v vs H P ι F s Q E R r rs post
  unfold mReverse at post
  split at post
  · rename_i n
    cases (show vs = [] by unfold Rps at rs; exact rs)
    unfold Rp at r
    obtain ⟨a, e1, rfl⟩ := r
    split at post
    · rename_i xs hs
      obtain ⟨h2, us, h3, h4⟩ := lc_of R hs e1
      refine ⟨a, us, rfl, rfl, h3, ?_⟩
      exact post .non _ ι F (Grow.refl _ _) (R.setC hs rfl e1 ⟨h2, _, upd_same, h4.rev⟩) (by unfold Rp; rfl)
    · exact post.elim
  · exact post.elim
/-! ## list(range(a)) -/
def dListR (f : DE) : DE := fun δ s => (f δ s).bind fun x s1 => match x with
  | .int n => if 0 ≤ n ∧ n ≤ 1000 then .ok (.lst (intsD 0 n.toNat)) s1 else .stuck
  | _ => .stuck
theorem rgV_eq (n : Int) : rgV 0 n = (List.range n.toNat).map fun (i : Nat) => V.int (0 + (i : Int)) := by
  unfold rgV
  rw [show n - 0 = n by omega]
theorem rps_rg {F : Hp} {ι : List Addr} (n : Nat) : Rps T F ι (intsD 0 n) ((List.range n).map fun (i : Nat) => V.int (0 + (i : Int))) := by
  have := rps_ints (T := T) (F := F) (ι := ι) ((List.range n).map fun (i : Nat) => 0 + (i : Int))
  rw [List.map_map, List.map_map] at this
  exact this
theorem d_listR {a : Expr} {f : DE} {p p2 q pos : Pos} (hm : X.mg "list" = none) (hm2 : X.mg "range" = none) (ha : PDe T X a f) (hg : Gl X "list" := by rfl) (hg2 : Gl X "range" := by rfl) (hc : X.calm = true := by rfl)
    (na : starEach [a] X.env = (false, eval a X.env) :: starEach [] X.env := by rfl) (na2 : starEach [Expr.Call (.Name "range" p2) [a] [] q] X.env = (false, eval (Expr.Call (.Name "range" p2) [a] [] q) X.env) :: starEach [] X.env := by rfl) : PDe T X (.Call (.Name "list" p) [.Call (.Name "range" p2) [a] [] q] [] pos) (dListR f) := fun pn xe W tk => by
  obtain ⟨t1, p1, d1⟩ := ha pn xe W tk
  refine ⟨_, pe_listRg (X := X.tr pn xe) hc hg hm (prg_1 hg2 hm2 p1 na) na2, fun σ H P ι F δ s Q R E post => ?_⟩
  show t1 σ H _
  refine den_then d1 R E post fun x y H1 ι1 F1 s1 g1 R1 E1 r1 post1 => ?_
  split at post1
  · rename_i n
    unfold Rp at r1
    subst r1
    split at post1
    · rename_i hn
      refine ⟨n, rfl, RgOk.of_le (by omega) (by omega) (by omega) (by omega), fun q hq => ?_⟩
      refine post1.new R1 hq fun g => ?_
      unfold Rp
      refine ⟨q, _, rfl, upd_same, ?_⟩
      rw [rgV_eq]
      exact rps_rg _
    · exact post1.elim
  · exact post1.elim
/-! ## keywords -/
def PDkw (T : Tb) (X : Cx) (kws : List Keyword) (f : DA) : Prop := ∀ pn xe W, Takes (X.tr pn xe) W → ∃ t, PK (X.tr pn xe) kws t ∧ DenG T (RpsN T kws.length) W t f
theorem kw_nil : PDkw T X [] aNil := fun pn xe W _ => ⟨_, pk_nil, fun _ _ _ _ _ _ _ _ R _ post => post.here R ⟨.nil, rfl⟩⟩
theorem kw_one {nm : Option Str} {e : Expr} {kpos : Pos} {f : DE} (he : PDe T X e f) : PDkw T X [⟨nm, e, kpos⟩] (aCons f aNil) := fun pn xe W tk => by
  obtain ⟨t1, p1, d1⟩ := he pn xe W tk
  exact ⟨_, pk_cons p1 pk_nil, den_cons d1 (n := 0) fun _ _ _ _ _ _ _ _ R _ post => post.here R ⟨.nil, rfl⟩⟩
def bMaxD : List D → List D → Sto → Res D
  | [x], [.int d], s => match (lqOf s x).bind intsOf with
    | some ns => .ok (.int (if ns = [] then d else maxI ns)) s
    | none => .stuck
  | _, _, _ => .stuck
def dMaxD (fa fz : DA) : DE := fun δ s => (fa δ s).bind fun ds s1 => (fz δ s1).bind fun zs s2 => bMaxD ds zs s2
theorem d_maxD {e : Expr} {kws : List Keyword} {p pos : Pos} {fa fz : DA} (hm : X.mg "max" = none) (ha : PDa T X [e] fa) (hk : PDkw T X kws fz) (hc : X.calm = true := by rfl) (hu : X.A.units + 64 < cLine) (hg : Gl X "max" := by rfl) (hK : X.K = T.K := by rfl)
    (he : backTo pos (starEach [e] X.env) = (false, eval e X.env) :: backTo pos (starEach [] X.env) := by rfl) (hpl : (backTo pos (starEach [e] X.env)).any (·.1) = false := by rfl)
    (hall : (backToKw pos (keywordEach kws X.env)).all (·.1.isSome) = true := by rfl) (hnone : (backToKw pos (keywordEach kws X.env)).any (·.1.isNone) = false := by rfl) (hks : (backToKw pos (keywordEach kws X.env)).filterMap (·.1) = [Str.ofString "default"] := by rfl) :
    PDe T X (.Call (.Name "max" p) [e] kws pos) (dMaxD fa fz) := fun pn xe W tk => by
  obtain ⟨t1, p1, d1⟩ := ha pn xe W tk
  obtain ⟨t2, p2, d2⟩ := hk pn xe W tk
  have hK' : (X.tr pn xe).K = T.K := hK
  refine ⟨_, pe_callBK (X := X.tr pn xe) (crk_max hc hu) hg hm (by decide +kernel) p1 p2 (by decide) (by decide) he hpl hall hnone hks, fun σ H P ι F δ s Q R E post => ?_⟩
  rw [hK']
  show t1 σ H _
  refine den_then d1 R E post fun ds vs H1 ι1 F1 s1 g1 R1 E1 r1 post1 => ?_
  refine den_then d2 R1 E1 post1 fun zs ws H2 ι2 F2 s2 g2 R2 E2 r2 post2 => ?_
  have ra := r1.1.mono g2
  unfold bMaxD at post2
  split at post2
  · obtain ⟨v, e1, h1⟩ := rps1 ra
    obtain ⟨w, e2, h2⟩ := rps1 r2.1
    subst e1 e2
    unfold Rp at h2
    subst h2
    split at post2
    · rename_i ns hn
      obtain ⟨a, rfl, h3⟩ := ints_at R2 h1 hn
      exact ⟨a, ns, _, rfl, rfl, h3, post2.here R2 (by unfold Rp; rfl)⟩
    · exact post2.elim
  · exact post2.elim
/-! ## comprehensions over a list cell -/
/-- what is walked, and the cell that is held meanwhile -/
def itCel (x : D) (s : Sto) : Option (List D × Sto × Option (Nat × List D)) := match x with
  | .loc n => match s[n]? with
    | some (.lst xs) => some (xs, s.set n .dead, some (n, xs))
    | _ => none
  | .lst xs => some (xs, s, none)
  | .scr ns => some (ns.map D.int, s, none)
  | .tup xs => some (xs, s, none)
  | .str z => some (z.map fun c => D.str [c], s, none)
  | _ => none
def backO : Option (Nat × List D) → Res D → Res D
  | none, r => r
  | some (n, xs), r => r.back n xs
def dLcA (f : DE) (t : DTg) (c : DT) (e : DE) (vs : List Nat) : DE := fun δ s => (f δ s).bind fun x s1 => match itCel x s1 with
  | some (ds, s2, h) => backO h (lcL t c e (wipeE δ vs) ds [] s2)
  | none => .stuck
/-- the turns of a comprehension, whatever was walked -/
theorem lc_run {W : WX} {ws vs : List Nat} {t : DTg} {c : DT} {e : DE} (hs : ∀ i ∈ ws, i ∈ vs) {J : It} {ds : List D} {σ : L2.St} {H1 P : Hp} {ι1 : List Addr} {F1 : Hp} {δ : Env} {s1 : Sto} {Q : VK} (w : WalksP T J ds P F1 ι1) (R1 : RelH T P ι1 F1 s1 H1) (E1 : REnv T F1 ι1 δ σ)
    (post1 : Post T P (Rp T) Q (fun c H' => W (.ref (T.ca c)) none σ H') F1 ι1 (lcL t c e (wipeE δ vs) ds [] s1)) : ∀ L, H1 L = none →
    ∃ W' : Nat → Nat → Hp → Prop, (∃ m, W' 0 m (upd H1 L (.lst []))) ∧ ∀ i m H, W' i m H →
      (J.stop i H ∧ Q (.ref L) H) ∨ (J.go i H ∧ ∃ Nx : Hp → Prop, (∀ H', Nx H' → ∃ m', m' < m ∧ W' (i + 1) m' H') ∧ ∀ x H', J.yld i H x H' → canT T ws t x (L2.wipe σ vs) H' fun σ2 H2 => L2.wipe σ2 vs = L2.wipe σ vs ∧ canE T eqR W0 c σ2 H2 fun b H3 =>
        if b = true then canE T (Rp T) W0 e σ2 H3 (fun y H4 => ∃ ys, H4 L = some (.lst ys) ∧ ys.length < sizeLine ∧ Nx (upd H4 L (.lst (ys ++ [y])))) else Nx H3) := fun L hL => by
  have hPL : P L = none := R1.freeP hL
  refine lc_it w (fun i H' => ∃ ι' F' s' acc vacc, Grow F1 ι1 F' ι' ∧ RelH T (upd P L (.lst vacc)) ι' F' s' H' ∧ Rps T F' ι' acc vacc ∧
      Post T P (Rp T) Q (fun c H' => W (.ref (T.ca c)) none σ H') F' ι' (lcL t c e (wipeE δ vs) (ds.drop i) acc s'))
    ⟨ι1, F1, s1, [], [], Grow.refl _ _, R1.newP hL _, .nil, by simpa using post1⟩ ?_ ?_ ?_
  · rintro i H' _ ⟨ι', F', s', acc, vacc, g', R', _, _⟩
    exact ⟨fun a o h => R'.sub _ _ (g'.1 _ _ h), fun a o h => R'.pro _ _ (by rw [upd_ne (ne_of_none h hPL)]; exact h)⟩
  · rintro i x H' H2 hi' ⟨ι', F', s', acc, vacc, g', R', ra, post'⟩ ⟨d, hd, y⟩
    obtain ⟨F2, g2, R2, r2⟩ := item_ok g' R' y
    rw [drop_get hd] at post'
    unfold lcL at post'
    have Ew : REnv T F2 ι' (wipeE δ vs) (L2.wipe σ vs) := ((E1.mono g').mono g2).wipe vs
    cases q : t d (wipeE δ vs) with
    | none => rw [q] at post'; exact post'.elim
    | some δ1 =>
      rw [q] at post'
      dsimp only at post'
      refine ⟨_, ι', F2, _, δ1, s', d, R2, Ew, r2, q, fun σ2 E2 o2 => ⟨o2.wipe hs |>.trans ?_, ?_⟩⟩
      · refine List.ext_getElem? fun j => ?_
        rw [wipe_at, wipe_at, wipe_length]
        by_cases c : j ∈ vs ∧ j < σ.length
        · rw [if_pos c, if_pos c]
        · rw [if_neg c, if_neg c]
      · refine ⟨_, ι', F2, δ1, s', R2, E2, ?_⟩
        cases qc : c δ1 s' with
        | stuck => rw [qc] at post'; exact post'.elim
        | exc k s2 => rw [qc] at post'; exact post'.elim
        | ok b s2 =>
          rw [qc] at post'
          intro b' H3 ι3 F3 g3 R3 eb
          cases eb
          cases b with
          | false =>
            rw [if_neg Bool.false_ne_true]
            exact ⟨ι3, F3, s2, acc, vacc, (g'.trans g2).trans g3, R3, ra.mono (g2.trans g3), post'.mono (g2.trans g3)⟩
          | true =>
            rw [if_pos rfl]
            refine ⟨_, ι3, F3, δ1, s2, R3, E2.mono g3, ?_⟩
            dsimp only at post'
            cases qe : e δ1 s2 with
            | stuck => rw [qe] at post'; exact post'.elim
            | exc k s3 => rw [qe] at post'; exact post'.elim
            | ok z s3 =>
              rw [qe] at post'
              intro v H4 ι4 F4 g4 R4 rv
              dsimp only at post'
              have ra' := ra.mono ((g2.trans g3).trans g4)
              split at post'
              · rename_i hl
                refine ⟨vacc, R4.pro _ _ upd_same, by rw [← ra.len]; exact lim_lt (Nat.le_of_lt hl), ι4, F4, s3, acc ++ [z], vacc ++ [v], ((g'.trans g2).trans g3).trans g4, ?_, ra'.app (.cons rv .nil), post'.mono ((g2.trans g3).trans g4)⟩
                have := R4.setP (p := L) upd_same (.lst (vacc ++ [v]))
                rw [upd_upd] at this
                exact this
              · exact post'.elim
  · rintro H' ⟨ι', F', s', acc, vacc, g', R', ra, post'⟩
    rw [List.drop_length] at post'
    have R2 := R'.thaw hPL
    have gr : Grow F' ι' (upd F' L (.lst vacc)) ι' := grow_new (R'.dis L _ upd_same) _
    refine post' (.ref L) H' ι' _ gr R2 ?_
    unfold Rp
    exact ⟨L, vacc, rfl, upd_same, ra.mono gr⟩
theorem back_L {Q : VK} {E : Nat → Hp → Prop} {P F : Hp} {ι : List Addr} {h : Option (Nat × List D)} {r : Res D} (hn : h = none) (post : Post T P (Rp T) Q E F ι (backO h r)) : Post T P (Rp T) Q E F ι r := by
  subst hn
  exact post
theorem d_lcA {elt tg iter : Expr} {ifs : List Expr} {scope : Scope} {own : List (Str × Nat)} {pos : Pos} {f : DE} {ws : List Nat} {t : DTg} {c : DT} {e : DE} (hN : X.N.Nodup) (hi : PDe T X iter f) (ok : BlkOk X.N X.env.scope scope own)
    (hg : ∀ (s : Shared) (H : Hp) (C : Addr) (cl : List (Str × Addr)) (fp : List Addr), PDg T (Blk X scope s H C cl fp) tg ws t) (ht : ∀ (s : Shared) (H : Hp) (C : Addr) (cl : List (Str × Addr)) (fp : List Addr), PDts T (Blk X scope s H C cl fp) ifs c)
    (he : ∀ (s : Shared) (H : Hp) (C : Addr) (cl : List (Str × Addr)) (fp : List Addr), PDe T (Blk X scope s H C cl fp) elt e) (hs : ∀ i ∈ ws, i ∈ own.map (·.2) := by decide) (hf : ∀ x, foldedSetIterable iter X.env x = pure x := by intro _; rfl) (hc : X.calm = true := by rfl) (hK : X.K = T.K := by rfl) :
    PDe T X (.ListComp elt [⟨tg, iter, ifs, 0⟩] scope pos) (dLcA f t c e (own.map (·.2))) := fun pn xe W tk => by
  obtain ⟨t1, p1, d1⟩ := hi pn xe W tk
  have hK' : (X.tr pn xe).K = T.K := hK
  have wi : PI (X.tr pn xe) tg iter (fun σ H R => (iList T.K t1 σ H R ∨ iTup T.K t1 σ H R) ∨ iStr t1 σ H R) := by
    have := PI.or (PI.or (pi_list (X := X.tr pn xe) (tg := tg) p1) (pi_tup p1)) (pi_str p1)
    rw [hK'] at this
    exact this
  refine ⟨_, pe_lc (X := X.tr pn xe) (own := own) hc hN wi ok (g := canT T ws t) (tt := canE T eqR W0 c) (te := canE T (Rp T) W0 e) (fun s H C cl fp => ?_) (fun s H C cl fp => ?_) (fun s H C cl fp => ?_) hf, fun σ H P ι F δ s Q R E post => ?_⟩
  · obtain ⟨g, p, d⟩ := hg s H C cl fp [] (fun _ _ => False)
    exact PG.weak p fun v σ H Q q => d.can q
  · obtain ⟨g, p, d⟩ := ht s H C cl fp
    exact PTs.weak p fun σ H Q q => d.can q
  · obtain ⟨g, p, d⟩ := he s H C cl fp [] (fun _ _ => False) W0 takes0
    exact PE.weak p fun σ H Q q => d.can q
  have post0 : Post T P (Rp T) Q (fun c H' => W (.ref (T.ca c)) none σ H') F ι ((f δ s).bind fun x s1 => match itCel x s1 with
    | some (ds, s2, h) => backO h (lcL t c e (wipeE δ (own.map (·.2))) ds [] s2)
    | none => .stuck) := post
  cases ef : f δ s with
  | stuck => rw [ef] at post0; exact post0.elim
  | exc k s1 =>
    rw [ef] at post0
    refine .inl (.inl ?_)
    show t1 σ H _
    refine d1 σ H P ι F δ s _ R E ?_
    rw [ef]
    exact fun H' ι' F' g R' => post0 H' ι' F' g R'
  | ok x s1 =>
    rw [ef] at post0
    have run : ∀ {G : V → Hp → Prop}, (∀ v H' ι' F', Grow F ι F' ι' → RelH T P ι' F' s1 H' → Rp T F' ι' x v → G v H') → t1 σ H G := fun {G} h => by
      refine d1 σ H P ι F δ s G R E ?_
      rw [ef]
      exact h
    cases x with
    | lst xs =>
      refine .inl (.inl ?_)
      show t1 σ H _
      refine run fun v H1 ι1 F1 g1 R1 r1 => ?_
      unfold Rp at r1
      obtain ⟨a, vs, rfl, h1, h2⟩ := r1
      exact ⟨a, rfl, ⟨vs, SqL.of (R1.sub _ _ h1)⟩, lc_run hs ((walks_list (SqL.of h1) h2).toP P) R1 (E.mono g1) (Post.mono g1 post0)⟩
    | scr ns =>
      refine .inl (.inl ?_)
      show t1 σ H _
      refine run fun v H1 ι1 F1 g1 R1 r1 => ?_
      unfold Rp at r1
      obtain ⟨a, rfl, h1⟩ := r1
      exact ⟨a, rfl, ⟨_, sql_mono R1.sub h1⟩, lc_run hs ((walks_list h1 (rps_ints ns)).toP P) R1 (E.mono g1) (Post.mono g1 post0)⟩
    | tup xs =>
      refine .inl (.inr ?_)
      show t1 σ H _
      refine run fun v H1 ι1 F1 g1 R1 r1 => ?_
      obtain ⟨a, vs, rfl, h1, h0, h2⟩ := tp_of R1 r1
      exact ⟨a, rfl, ⟨vs, SqT.of h1⟩, lc_run hs ((walks_tup h0 h2).toP P) R1 (E.mono g1) (Post.mono g1 post0)⟩
    | str z =>
      refine .inr ?_
      show t1 σ H _
      refine run fun v H1 ι1 F1 g1 R1 r1 => ?_
      unfold Rp at r1
      exact ⟨S z, r1, lc_run hs ((walks_str z).toP P) R1 (E.mono g1) (Post.mono g1 post0)⟩
    | loc n =>
      refine .inl (.inl ?_)
      show t1 σ H _
      refine run fun v H1 ι1 F1 g1 R1 r1 => ?_
      have post1 : Post T P (Rp T) Q (fun c H' => W (.ref (T.ca c)) none σ H') F ι (match itCel (.loc n) s1 with
        | some (ds, s2, h) => backO h (lcL t c e (wipeE δ (own.map (·.2))) ds [] s2)
        | none => .stuck) := post0
      unfold Rp at r1
      obtain ⟨a, e1, rfl⟩ := r1
      unfold itCel at post1
      dsimp only at post1
      cases hs1 : s1[n]? with
      | none => rw [hs1] at post1; exact post1.elim
      | some cl =>
        rw [hs1] at post1
        cases cl with
        | lst xs =>
          obtain ⟨vs, h1, h2, h3, h4, R2⟩ := R1.hold hs1 e1
          exact ⟨a, rfl, ⟨vs, SqL.of h1⟩, lc_run hs (walksP_cell (P := upd P a (.lst vs)) upd_same h2) R2 (E.mono g1) (post_back h4 e1 h2 (Post.mono g1 post1))⟩
        | _ => exact post1.elim
    | _ => exact post0.elim
end
end Mp
/-! # MpN -/
namespace Mp
open PySem PySem.Spec PyProof.Rows L2
/-! ## defs, wherever they stand -/
structure Okd (T : Tb) (P : Program) (w : World) (mg : Str → Option Value) (base : Heap) (f : Addr) (k n : Nat) (φ : List D → Sto → Res D) : Prop where
  ex : ∃ (fd : FuncData) (ps : List Str), PySem.W.keepIn T.K (.ref f) = true ∧ Binds T.K fd ps [] ∧ FnOk P w T.K mg base (L2.CX P w) k f fd ps (spD T n φ)
section
variable {T : Tb} {P : Program} {w : World} {mg : Str → Option Value} {base : Heap} {f : Addr} {k n : Nat} {φ : List D → Sto → Res D}
theorem Okd.cl {x : Str} (h : Okd T P w mg base f k n φ) (g : mg x = some (.ref f)) : Cl T P w mg base x k n φ := by
  obtain ⟨fd, ps, h1, h2, h3⟩ := h.ex
  exact ⟨f, fd, ps, g, h1, h2, h3⟩
theorem Okd.mc {c : Nat} {m : Str} (h : Okd T P w mg base f k n φ) (hc : Cls T.K (T.ca c)) (hm : Meth T.K (T.ca c) m f) : Mc T P w mg base c m k n φ := by
  obtain ⟨fd, ps, h1, h2, h3⟩ := h.ex
  exact ⟨f, fd, ps, hc, hm, h2, h3⟩
theorem Okd.mkr {c : Nat} {x : Str} (h : Okd T P w mg base f k n φ) (hm : Mk T.K (T.ca c) f) (g : mg x = some (.ref (T.ca c))) : Mkc T P w mg base c x k n φ := by
  obtain ⟨fd, ps, h1, h2, h3⟩ := h.ex
  exact ⟨f, fd, ps, hm, g, h2, h3⟩
/-- what tells nothing is kept by every def -/
theorem fn_stuck {fd : FuncData} {ps : List Str} {CX : CXT} {K : PySem.W.Frag} : FnOk P w K mg base CX k f fd ps (spD T n fun _ _ => .stuck) := by
  have no : ∀ {vs H Q E}, spD T n (fun _ _ => .stuck) vs H Q E → False := fun {vs H Q E} h => by
    obtain ⟨_, _, _, _, _, _, _, _, post⟩ := h
    exact post
  exact ⟨fun _ _ _ _ h => (no h).elim, fun _ _ _ _ _ _ _ _ _ _ _ _ _ h => (no h).elim⟩
theorem Okd.zero {fd : FuncData} {ps : List Str} (h1 : PySem.W.keepIn T.K (.ref f) = true) (h2 : Binds T.K fd ps []) : Okd T P w mg base f k n fun _ _ => .stuck := ⟨fd, ps, h1, h2, fn_stuck⟩
end
end Mp
/-! # MpS -/
namespace Mp
open PySem PySem.Spec L2
/-! ## rows for computing with the deep program -/
section
variable {α β : Type}
@[simp] theorem bind_ok {a : α} {s : Sto} {k : α → Sto → Res β} : (Res.ok a s).bind k = k a s := rfl
@[simp] theorem bind_exc {c : Nat} {s : Sto} {k : α → Sto → Res β} : (Res.exc c s : Res α).bind k = .exc c s := rfl
@[simp] theorem bind_stuck {k : α → Sto → Res β} : (Res.stuck : Res α).bind k = .stuck := rfl
@[simp] theorem out_ok {δ : Env} {a : α} {s : Sto} {k : α → Sto → Out} : (Res.ok a s).out δ k = k a s := rfl
@[simp] theorem out_exc {δ : Env} {c : Nat} {s : Sto} {k : α → Sto → Out} : (Res.exc c s : Res α).out δ k = .ex c δ s := rfl
@[simp] theorem out_stuck {δ : Env} {k : α → Sto → Out} : (Res.stuck : Res α).out δ k = .stuck := rfl
end
section
variable {δ : Env} {s : Sto}
@[simp] theorem then_nx {k : DS} : (Out.nx δ s).andThen k = k δ s := rfl
@[simp] theorem then_rt {k : DS} {d : D} : (Out.rt d s).andThen k = .rt d s := rfl
@[simp] theorem then_bk {k : DS} : (Out.bk δ s).andThen k = .bk δ s := rfl
@[simp] theorem then_ct {k : DS} : (Out.ct δ s).andThen k = .ct δ s := rfl
@[simp] theorem then_ex {k : DS} {c : Nat} : (Out.ex c δ s).andThen k = .ex c δ s := rfl
@[simp] theorem then_stuck {k : DS} : Out.stuck.andThen k = .stuck := rfl
@[simp] theorem cut_same {d : D} : cut s.length d s = .ok d s := by unfold cut; rw [if_pos rfl]
@[simp] theorem cutX_same {c : Nat} : cutX s.length c s = .exc c s := by unfold cutX; rw [if_pos rfl]
@[simp] theorem cut_len {n : Nat} {d : D} (h : s.length = n) : cut n d s = .ok d s := by subst h; exact cut_same
theorem cutX_len {n : Nat} {c : Nat} (h : s.length = n) : cutX n c s = .exc c s := by subst h; exact cutX_same
@[simp] theorem cut_nil {d : D} : cut 0 d [] = .ok d [] := rfl
@[simp] theorem cutX_nil {c : Nat} : cutX 0 c [] = .exc c [] := rfl
@[simp] theorem fin_rt {n : Nat} {d : D} : finO n (.rt d s) = cut n d s := rfl
@[simp] theorem fin_nx {n : Nat} : finO n (.nx δ s) = cut n .non s := rfl
@[simp] theorem fin_ex {n c : Nat} : finO n (.ex c δ s) = cutX n c s := rfl
@[simp] theorem fin_stuck {n : Nat} : finO n .stuck = .stuck := rfl
@[simp] theorem dC_eq {d : D} : dC d δ s = .ok d s := rfl
@[simp] theorem dVar_eq {i : Nat} : dVar i δ s = match δ[i]? with
  | some (some d) => .ok d s
  | _ => .stuck := rfl
@[simp] theorem aNil_eq : aNil δ s = .ok [] s := rfl
@[simp] theorem aCons_eq {f : DE} {g : DA} : aCons f g δ s = (f δ s).bind fun x s1 => (g δ s1).bind fun xs s2 => .ok (x :: xs) s2 := rfl
@[simp] theorem dOp_eq {op : DOp} {f g : DE} : dOp op f g δ s = (f δ s).bind fun x s1 => (g δ s1).bind fun y s2 => op x y s2 := rfl
@[simp] theorem dCall_eq {φ : List D → Sto → Res D} {f : DA} : dCall φ f δ s = (f δ s).bind fun ds s1 => φ ds s1 := rfl
@[simp] theorem dBi_eq {φ : DB} {f : DA} : dBi φ f δ s = (f δ s).bind fun ds s1 => φ ds s1 := rfl
@[simp] theorem sSeq_eq {f g : DS} : sSeq f g δ s = (f δ s).andThen g := rfl
@[simp] theorem sSet_eq {i : Nat} {f : DE} : sSet i f δ s = (f δ s).out δ fun d s1 => .nx (δ.set i (some d)) s1 := rfl
@[simp] theorem sRet_eq {f : DE} : sRet f δ s = (f δ s).out δ fun d s1 => .rt d s1 := rfl
@[simp] theorem sRetN_eq : sRetN δ s = .rt .non s := rfl
@[simp] theorem sPass_eq : sPass δ s = .nx δ s := rfl
@[simp] theorem sBrk_eq : sBrk δ s = .bk δ s := rfl
@[simp] theorem sCt_eq : sCt δ s = .ct δ s := rfl
@[simp] theorem sDrop_eq {f : DE} : sDrop f δ s = (f δ s).out δ fun _ s1 => .nx δ s1 := rfl
@[simp] theorem sIf_eq {c : DT} {f g : DS} : sIf c f g δ s = (c δ s).out δ fun b s1 => if b = true then f δ s1 else g δ s1 := by
  unfold sIf
  cases c δ s with
  | ok b s1 => cases b <;> rfl
  | _ => rfl
@[simp] theorem tAnd_eq {f g : DT} : tAndD f g δ s = (f δ s).bind fun b s1 => if b = true then g δ s1 else .ok false s1 := by
  unfold tAndD
  cases f δ s with
  | ok b s1 => cases b <;> rfl
  | _ => rfl
@[simp] theorem tOr_eq {f g : DT} : tOrD f g δ s = (f δ s).bind fun b s1 => if b = true then .ok true s1 else g δ s1 := by
  unfold tOrD
  cases f δ s with
  | ok b s1 => cases b <;> rfl
  | _ => rfl
@[simp] theorem tNot_eq {f : DT} : tNotD f δ s = (f δ s).bind fun b s1 => .ok (!b) s1 := rfl
@[simp] theorem tst_eq {f : DE} : tst f δ s = (f δ s).bind fun x s1 => match x with
  | .bl b => .ok b s1
  | _ => .stuck := rfl
@[simp] theorem dIfE_eq {c : DT} {f g : DE} : dIfE c f g δ s = (c δ s).bind fun b s1 => if b = true then f δ s1 else g δ s1 := by
  unfold dIfE
  cases c δ s with
  | ok b s1 => cases b <;> rfl
  | _ => rfl
@[simp] theorem dAnd_eq {f g : DE} : dAndV f g δ s = (f δ s).bind fun x s1 => match x with
  | .bl true => g δ s1
  | .bl false => .ok (.bl false) s1
  | _ => .stuck := rfl
@[simp] theorem dOr_eq {f g : DE} : dOrV f g δ s = (f δ s).bind fun x s1 => match x with
  | .bl true => .ok (.bl true) s1
  | .bl false => g δ s1
  | _ => .stuck := rfl
@[simp] theorem dNot_eq {f : DE} : dNotV f δ s = (f δ s).bind fun x s1 => match x with
  | .bl b => .ok (.bl (!b)) s1
  | _ => .stuck := rfl
@[simp] theorem dChain_eq {op op' : DOp} {f g h : DE} : dChain op op' f g h δ s = (f δ s).bind fun x s1 => (g δ s1).bind fun y s2 => (op x y s2).bind fun z s3 => match z with
  | .bl true => (h δ s3).bind fun w s4 => op' y w s4
  | .bl false => .ok (.bl false) s3
  | _ => .stuck := rfl
@[simp] theorem dTup_eq {f : DA} : dTup f δ s = (f δ s).bind fun xs s1 => if xs.length ≤ lim then .ok (.tup xs) s1 else .stuck := rfl
@[simp] theorem dLst_eq {f : DA} : dLst f δ s = (f δ s).bind fun xs s1 => if xs.length ≤ lim then .ok (.lst xs) s1 else .stuck := rfl
@[simp] theorem dUn_eq {g : Int → Int} {f : DE} : dUn g f δ s = (f δ s).bind fun x s1 => match x with
  | .int i => .ok (.int (g i)) s1
  | _ => .stuck := rfl
@[simp] theorem dSl_eq {f : DE} {lo hi : DOI} : dSl f lo hi δ s = (f δ s).bind fun x s1 => (lo δ s1).bind fun l s2 => (hi δ s2).bind fun u s3 => oSl x l u s3 := rfl
theorem oSl_str {z : List Nat} {lo hi : Option Int} (h : z.length ≤ lim) : oSl (.str z) lo hi s = .ok (.str (cutL z lo hi)) s := if_pos h
@[simp] theorem pNone_eq : pNone δ s = .ok none s := rfl
@[simp] theorem pSome_eq {f : DE} : pSome f δ s = (f δ s).bind fun x s1 => match x with
  | .int i => .ok (some i) s1
  | _ => .stuck := rfl
@[simp] theorem tgN_eq {i : Nat} {d : D} : tgN i d δ = some (δ.set i (some d)) := rfl
@[simp] theorem tgT_eq {ts : List DTg} {xs : List D} : tgT ts (.tup xs) δ = tgs ts xs δ := rfl
@[simp] theorem tgs_nil : tgs [] [] δ = some δ := rfl
@[simp] theorem tgs_cons {t : DTg} {ts : List DTg} {d : D} {ds : List D} : tgs (t :: ts) (d :: ds) δ = (t d δ).bind fun δ1 => tgs ts ds δ1 := rfl
@[simp] theorem sAsg_eq {f : DE} {t : DTg} : sAsg f t δ s = (f δ s).out δ fun d s1 => match t d δ with
  | some δ1 => .nx δ1 s1
  | none => .stuck := rfl
/-! ### loops -/
@[simp] theorem sFor_eq {it : DIt} {t : DTg} {b : DS} : sFor it t b δ s = (it δ s).out δ fun ds s1 => forL t b ds δ s1 := rfl
@[simp] theorem forL_nil {t : DTg} {b : DS} : forL t b [] δ s = .nx δ s := rfl
theorem forL_cons {t : DTg} {b : DS} {d : D} {r : List D} : forL t b (d :: r) δ s = match t d δ with
  | none => .stuck
  | some δ1 => match b δ1 s with
    | .nx δ2 s2 => forL t b r δ2 s2
    | .ct δ2 s2 => forL t b r δ2 s2
    | .bk δ2 s2 => .nx δ2 s2
    | o => o := rfl
theorem forL_next {t : DTg} {b : DS} {d : D} {r : List D} {δ1 δ2 : Env} {s2 : Sto} (h : t d δ = some δ1) (k : b δ1 s = .nx δ2 s2) : forL t b (d :: r) δ s = forL t b r δ2 s2 := by
  rw [forL_cons, h]
  dsimp only
  rw [k]
theorem forL_stop {t : DTg} {b : DS} {d e : D} {r : List D} {δ1 : Env} {s2 : Sto} (h : t d δ = some δ1) (k : b δ1 s = .rt e s2) : forL t b (d :: r) δ s = .rt e s2 := by
  rw [forL_cons, h]
  dsimp only
  rw [k]
end
theorem forL_ok (I : Nat → Env → Sto → Prop) {t : DTg} {b : DS} : ∀ (ds : List D) (n : Nat), (∀ i d δ s, ds[i]? = some d → I (n + i) δ s → ∃ δ1 δ2 s2, t d δ = some δ1 ∧ (b δ1 s = .nx δ2 s2 ∨ b δ1 s = .ct δ2 s2) ∧ I (n + i + 1) δ2 s2) →
    ∀ (δ : Env) (s : Sto), I n δ s → ∃ δ' s', forL t b ds δ s = .nx δ' s' ∧ I (n + ds.length) δ' s'
  | [], n, _, δ, s, h => ⟨δ, s, rfl, h⟩
  | d :: r, n, turn, δ, s, h => by
    obtain ⟨δ1, δ2, s2, h1, h2, h3⟩ := turn 0 d δ s rfl h
    obtain ⟨δ', s', e, i⟩ := forL_ok I r (n + 1) (fun i d δ s hd hi => by
      have := turn (i + 1) d δ s (by simpa using hd) (by rw [show n + (i + 1) = n + 1 + i by omega]; exact hi)
      rw [show n + (i + 1) = n + 1 + i by omega] at this
      exact this) δ2 s2 h3
    refine ⟨δ', s', ?_, by rw [List.length_cons, show n + (r.length + 1) = n + 1 + r.length by omega]; exact i⟩
    rw [forL_cons, h1]
    dsimp only
    rcases h2 with h2 | h2 <;> rw [h2] <;> exact e
section
variable {δ : Env} {s : Sto}
@[simp] theorem sWh_eq {n : Nat} {c : DT} {b : DS} : sWh n c b δ s = whL c b n δ s := rfl
@[simp] theorem itSeq_eq {f : DE} : itSeq f δ s = (f δ s).bind fun x s1 => match x with
  | .lst xs => .ok xs s1
  | .scr ns => .ok (ns.map D.int) s1
  | .tup xs => .ok xs s1
  | _ => .stuck := by
  unfold itSeq
  cases f δ s with
  | ok x s1 => cases x <;> rfl
  | _ => rfl
@[simp] theorem itR1_eq {f : DA} : itR1 f δ s = (f δ s).bind fun xs s1 => match xs with
  | [.int n] => if small62 n = true then .ok (intsD 0 n.toNat) s1 else .stuck
  | _ => .stuck := rfl
@[simp] theorem itR2_eq {f : DA} : itR2 f δ s = (f δ s).bind fun xs s1 => match xs with
  | [.int a, .int b] => if (small62 a && small62 b) = true then .ok (intsD a (b - a).toNat) s1 else .stuck
  | _ => .stuck := rfl
@[simp] theorem itZip_eq {f : DA} : itZip f δ s = (f δ s).bind fun xs s1 => match xs with
  | [.lst a, .lst b] => .ok (zipD a b) s1
  | [.tup a, .tup b] => .ok (zipD a b) s1
  | _ => .stuck := rfl
@[simp] theorem dLc_eq {it : DIt} {t : DTg} {c : DT} {e : DE} {vs : List Nat} : dLc it t c e vs δ s = (it δ s).bind fun ds s1 => lcL t c e (wipeE δ vs) ds [] s1 := rfl
@[simp] theorem lcL_nil {t : DTg} {c : DT} {e : DE} {acc : List D} : lcL t c e δ [] acc s = .ok (.lst acc) s := rfl
theorem lcL_cons {t : DTg} {c : DT} {e : DE} {acc : List D} {d : D} {r : List D} : lcL t c e δ (d :: r) acc s = match t d δ with
  | none => .stuck
  | some δ1 => match c δ1 s with
    | .ok true s2 => match e δ1 s2 with
      | .ok y s3 => if acc.length < lim then lcL t c e δ r (acc ++ [y]) s3 else .stuck
      | _ => .stuck
    | .ok false s2 => lcL t c e δ r acc s2
    | _ => .stuck := rfl
@[simp] theorem cYes_eq : cYes δ s = .ok true s := rfl
@[simp] theorem wipeE_nil : wipeE δ [] = δ := rfl
@[simp] theorem wipeE_cons {v : Nat} {vs : List Nat} : wipeE δ (v :: vs) = (wipeE δ vs).set v none := rfl
/-! ### operators -/
@[simp] theorem oAdd_int {a b : Int} : oAdd (.int a) (.int b) s = .ok (.int (a + b)) s := rfl
@[simp] theorem oAdd_str {a b : List Nat} : oAdd (.str a) (.str b) s = if a.length + b.length ≤ lim then .ok (.str (a ++ b)) s else .stuck := rfl
@[simp] theorem oAdd_tup {a b : List D} : oAdd (.tup a) (.tup b) s = if a ≠ [] ∧ a.length + b.length ≤ lim then .ok (.tup (a ++ b)) s else .stuck := rfl
@[simp] theorem oAdd_lst {a b : List D} : oAdd (.lst a) (.lst b) s = if a.length + b.length ≤ lim then .ok (.lst (a ++ b)) s else .stuck := rfl
@[simp] theorem oInt_int {c : Int → Int → Bool} {g : Int → Int → Int} {a b : Int} : oInt c g (.int a) (.int b) s = if c a b = true then .ok (.int (g a b)) s else .stuck := rfl
@[simp] theorem oCmp_int {g : Int → Int → Bool} {a b : Int} : oCmp g (.int a) (.int b) s = .ok (.bl (g a b)) s := rfl
theorem oEq_sc {n b : Bool} {x y : D} (h : scD x y = some b) : oEqG n x y s = .ok (.bl (n != b)) s := by unfold oEqG; rw [h]
section
variable {n : Bool} {a b : Int} {x y : List Nat} {p q : Bool}
@[simp] theorem oEq_int : oEqG n (.int a) (.int b) s = .ok (.bl (n != (a == b))) s := rfl
@[simp] theorem oEq_str : oEqG n (.str x) (.str y) s = .ok (.bl (n != (x == y))) s := rfl
@[simp] theorem oEq_bl : oEqG n (.bl p) (.bl q) s = .ok (.bl (n != (p == q))) s := rfl
@[simp] theorem oEq_nn : oEqG n .non .non s = .ok (.bl (n != true)) s := rfl
@[simp] theorem oEq_ni : oEqG n .non (.int a) s = .ok (.bl (n != false)) s := rfl
@[simp] theorem oEq_ns : oEqG n .non (.str x) s = .ok (.bl (n != false)) s := rfl
@[simp] theorem oEq_nb : oEqG n .non (.bl p) s = .ok (.bl (n != false)) s := rfl
@[simp] theorem oEq_in : oEqG n (.int a) .non s = .ok (.bl (n != false)) s := rfl
@[simp] theorem oEq_sn : oEqG n (.str x) .non s = .ok (.bl (n != false)) s := rfl
@[simp] theorem oEq_bn : oEqG n (.bl p) .non s = .ok (.bl (n != false)) s := rfl
@[simp] theorem oEq_is : oEqG n (.int a) (.str x) s = .ok (.bl (n != false)) s := rfl
@[simp] theorem oEq_si : oEqG n (.str x) (.int a) s = .ok (.bl (n != false)) s := rfl
@[simp] theorem oEq_bs : oEqG n (.bl p) (.str x) s = .ok (.bl (n != false)) s := rfl
@[simp] theorem oEq_sb : oEqG n (.str x) (.bl p) s = .ok (.bl (n != false)) s := rfl
end
@[simp] theorem oIs_eq {n : Bool} {x : D} : oIs n x .non s = .ok (.bl (n != isNon x)) s := rfl
@[simp] theorem isNon_non : isNon .non = true := rfl
@[simp] theorem isNon_int {a : Int} : isNon (.int a) = false := rfl
@[simp] theorem isNon_str {a : List Nat} : isNon (.str a) = false := rfl
@[simp] theorem isNon_bl {a : Bool} : isNon (.bl a) = false := rfl
@[simp] theorem isNon_tup {a : List D} : isNon (.tup a) = false := rfl
@[simp] theorem isNon_lst {a : List D} : isNon (.lst a) = false := rfl
@[simp] theorem isNon_loc {a : Nat} : isNon (.loc a) = false := rfl
@[simp] theorem isNon_exc {a : Nat} : isNon (.exc a) = false := rfl
@[simp] theorem isNon_obj {a : Nat} {ns : List Nat} {vs : List D} : isNon (.obj a ns vs) = false := rfl
@[simp] theorem lqOf_lst {xs : List D} : lqOf s (.lst xs) = some xs := rfl
@[simp] theorem lqOf_scr {ns : List Int} : lqOf s (.scr ns) = some (ns.map D.int) := rfl
@[simp] theorem lqOf_tup {xs : List D} : lqOf s (.tup xs) = none := rfl
@[simp] theorem lsOf_lst {xs : List D} : lsOf s (.lst xs) = some xs := rfl
@[simp] theorem tpOf_tup {xs : List D} : tpOf (.tup xs) = some xs := rfl
@[simp] theorem oIx_lst {xs : List D} {i : Int} : oIx (.lst xs) (.int i) s = match atI xs i with
  | some d => .ok d s
  | none => .stuck := rfl
@[simp] theorem oIx_tup {xs : List D} {i : Int} : oIx (.tup xs) (.int i) s = match atI xs i with
  | some d => .ok d s
  | none => .stuck := rfl
@[simp] theorem oIx_scr {xs : List Int} {i : Int} : oIx (.scr xs) (.int i) s = match atI (xs.map D.int) i with
  | some d => .ok d s
  | none => .stuck := rfl
@[simp] theorem oIx_str {z : List Nat} {i : Int} : oIx (.str z) (.int i) s = if z.length ≤ lim then match atI z i with
    | some c => .ok (.str [c]) s
    | none => .stuck
    else .stuck := rfl
@[simp] theorem bLen_lst {xs : List D} : bLen [.lst xs] s = .ok (.int xs.length) s := rfl
@[simp] theorem bLen_tup {xs : List D} : bLen [.tup xs] s = .ok (.int xs.length) s := rfl
@[simp] theorem bLen_scr {xs : List Int} : bLen [.scr xs] s = .ok (.int xs.length) s := by unfold bLen; simp
@[simp] theorem bLen_str {z : List Nat} : bLen [.str z] s = if z.length ≤ lim then .ok (.int z.length) s else .stuck := rfl
@[simp] theorem b2I_eq {g : Int → Int → Int} {a b : Int} : b2I g [.int a, .int b] s = .ok (.int (g a b)) s := rfl
theorem lim_eq : lim = 1000000 := rfl
theorem cMul_l {i j : Int} (h : -18446744073709551616 < i ∧ i < 18446744073709551616) : cMul i j = true := by
  unfold cMul
  simp only [Bool.or_eq_true, Bool.and_eq_true, decide_eq_true_eq]
  left
  have e : (2 : Int) ^ 64 = 18446744073709551616 := by decide
  rw [e]
  exact h
theorem cMul_r {i j : Int} (h : -18446744073709551616 < j ∧ j < 18446744073709551616) : cMul i j = true := by
  unfold cMul
  simp only [Bool.or_eq_true, Bool.and_eq_true, decide_eq_true_eq]
  right
  have e : (2 : Int) ^ 64 = 18446744073709551616 := by decide
  rw [e]
  exact h
@[simp] theorem atI_natc {α : Type} {xs : List α} {i : Nat} : atI xs (i : Int) = xs[i]? := by
  unfold atI ixN
  by_cases h : i < xs.length
  · simp [h]
  · simp [h]
@[simp] theorem atI_lit {α : Type} {xs : List α} {i : Nat} : atI xs (no_index (OfNat.ofNat i)) = xs[i]? := atI_natc (i := i)
theorem atI_nat {α : Type} {xs : List α} {i : Nat} (h : i < xs.length) : atI xs (i : Int) = xs[i]? := by
  unfold atI ixN
  simp [h]
theorem atI_int {α : Type} {xs : List α} {i : Int} (h0 : 0 ≤ i) (h1 : i < xs.length) : atI xs i = xs[i.toNat]? := by
  obtain ⟨n, rfl⟩ := Int.eq_ofNat_of_zero_le h0
  exact atI_nat (by omega)
theorem atI_mem {α : Type} {xs : List α} {i : Int} (h0 : 0 ≤ i) (h1 : i < xs.length) : ∃ d, atI xs i = some d ∧ d ∈ xs := by
  rw [atI_int h0 h1]
  have h : i.toNat < xs.length := by omega
  exact ⟨xs[i.toNat], by simp [h], List.getElem_mem h⟩
theorem atI_ex {α : Type} {xs : List α} {i : Int} {Q : α → Prop} (h0 : 0 ≤ i) (h1 : i < xs.length) (h : ∀ d ∈ xs, Q d) : ∃ d, atI xs i = some d ∧ Q d :=
  let ⟨d, e, m⟩ := atI_mem h0 h1
  ⟨d, e, h d m⟩
theorem atI_cons0 {α : Type} {x : α} {xs : List α} : atI (x :: xs) (0 : Int) = some x := by
  rw [atI_int (by omega) (by simp)]
  rfl
end
/-! ### exceptions, cells, methods, texts -/
section
variable {δ : Env} {s : Sto}
@[simp] theorem sRaise_eq {c : Nat} : sRaise c δ s = .ex c δ s := rfl
theorem sTry_eq {anc : Nat → Nat → Option Bool} {c : Nat} {i : Option Nat} {f g : DS} : sTry anc c i f g δ s = match f δ s with
  | .ex k δ1 s1 => match anc k c with
    | some true => (g (setE i (some (.exc k)) δ1) s1).unset i
    | some false => .ex k δ1 s1
    | none => .stuck
  | o => o := rfl
theorem sTry_rt {anc : Nat → Nat → Option Bool} {c : Nat} {i : Option Nat} {f g : DS} {d : D} {s1 : Sto} (h : f δ s = .rt d s1) : sTry anc c i f g δ s = .rt d s1 := by rw [sTry_eq, h]
theorem sTry_nx {anc : Nat → Nat → Option Bool} {c : Nat} {i : Option Nat} {f g : DS} {δ1 : Env} {s1 : Sto} (h : f δ s = .nx δ1 s1) : sTry anc c i f g δ s = .nx δ1 s1 := by rw [sTry_eq, h]
theorem sTry_ex {anc : Nat → Nat → Option Bool} {c k : Nat} {i : Option Nat} {f g : DS} {δ1 : Env} {s1 : Sto} (h : f δ s = .ex k δ1 s1) (hk : anc k c = some true) : sTry anc c i f g δ s = (g (setE i (some (.exc k)) δ1) s1).unset i := by rw [sTry_eq, h]; dsimp only; rw [hk]
@[simp] theorem setE_some {i : Nat} {o : Option D} : setE (some i) o δ = δ.set i o := rfl
@[simp] theorem setE_none {o : Option D} : setE none o δ = δ := rfl
@[simp] theorem unset_nx {i : Option Nat} : (Out.nx δ s).unset i = .nx (setE i none δ) s := rfl
@[simp] theorem unset_rt {i : Option Nat} {d : D} : (Out.rt d s).unset i = .rt d s := rfl
@[simp] theorem unset_ct {i : Option Nat} : (Out.ct δ s).unset i = .ct (setE i none δ) s := rfl
@[simp] theorem dLstC_eq {f : DA} : dLstC f δ s = (f δ s).bind fun xs s1 => if xs.length ≤ lim then .ok (.loc s1.length) (s1 ++ [.lst xs]) else .stuck := rfl
@[simp] theorem sIxS_eq {f fo fi : DE} : sIxS f fo fi δ s = (f δ s).out δ fun d s1 => (fo δ s1).out δ fun o s2 => (fi δ s2).out δ fun i s3 => match setAt o i d s3 with
  | some s4 => .nx δ s4
  | none => .stuck := rfl
@[simp] theorem setAt_loc {n : Nat} {k : Int} {d : D} : setAt (.loc n) (.int k) d s = match s[n]? with
    | some (.lst xs) => match ixN xs.length k with
      | some j => some (s.set n (.lst (xs.set j d)))
      | none => none
    | _ => none := rfl
@[simp] theorem lqOf_loc {n : Nat} : lqOf s (.loc n) = match s[n]? with
    | some (.lst xs) => some xs
    | _ => none := rfl
@[simp] theorem lsOf_loc {n : Nat} : lsOf s (.loc n) = match s[n]? with
    | some (.lst xs) => some xs
    | _ => none := rfl
@[simp] theorem oIx_loc {n : Nat} {i : Int} : oIx (.loc n) (.int i) s = match (lqOf s (.loc n)).or none with
  | some xs => match atI xs i with
    | some d => .ok d s
    | none => .stuck
  | none => .stuck := rfl
@[simp] theorem dMt_eq {ty : String} {op : DM} {f : DE} {fa : DA} : dMt ty op f fa δ s = (f δ s).bind fun x s1 => if recvTy s1 x = some ty then (fa δ s1).bind fun xs s2 => op x xs s2 else .stuck := rfl
@[simp] theorem recvTy_str {z : List Nat} : recvTy s (.str z) = some "str" := rfl
@[simp] theorem recvTy_lst {z : List D} : recvTy s (.lst z) = some "list" := rfl
@[simp] theorem recvTy_scr {z : List Int} : recvTy s (.scr z) = some "list" := rfl
@[simp] theorem recvTy_loc {n : Nat} : recvTy s (.loc n) = match s[n]? with
    | some (.lst _) => some "list"
    | some (.dct _ _) => some "dict"
    | _ => none := rfl
@[simp] theorem mAppend_eq {n : Nat} {d : D} : mAppend (.loc n) [d] s = match s[n]? with
    | some (.lst xs) => if xs.length < lim then .ok .non (s.set n (.lst (xs ++ [d]))) else .stuck
    | _ => .stuck := rfl
@[simp] theorem itAny_eq {f : DE} : itAny f δ s = (f δ s).bind fun x s1 => match x with
  | .lst xs => .ok xs s1
  | .scr ns => .ok (ns.map D.int) s1
  | .tup xs => .ok xs s1
  | .str z => .ok (z.map fun c => D.str [c]) s1
  | _ => .stuck := by
  unfold itAny
  cases f δ s with
  | ok x s1 => cases x <;> rfl
  | _ => rfl
@[simp] theorem oInA_sign {neg : Bool} {c : Nat} {z : List Nat} : oInA neg (.str [c]) (.str z) s = .ok (.bl (neg != decide (c ∈ z))) s := rfl
theorem oInA_lst {neg : Bool} {x : D} {ys : List D} : oInA neg x (.lst ys) s = if (flatD x && ys.all flatD) = true then .ok (.bl (neg != ys.any fun y => eqF y x)) s else .stuck := by
  unfold oInA
  split
  · rename_i h; cases h
  · rfl
@[simp] theorem oInA_tup {neg : Bool} {x : D} {ys : List D} : oInA neg x (.tup ys) s = if (flatD x && ys.all flatD) = true then .ok (.bl (neg != ys.any fun y => eqF y x)) s else .stuck := by
  unfold oInA
  split
  · rename_i h; cases h
  · rfl
@[simp] theorem dFmt_eq {f : DE} : dFmt f δ s = (f δ s).bind fun x s1 => match x with
  | .str z => if z.length ≤ lim then .ok (.str z) s1 else .stuck
  | .int i => if i.natAbs.log2 < 1920 then .ok (.str (strI i)) s1 else .stuck
  | _ => .stuck := rfl
@[simp] theorem dJs_nil {acc : List Nat} : dJs [] acc δ s = .ok (.str acc) s := rfl
@[simp] theorem dJs_cons {f : DE} {fs : List DE} {acc : List Nat} : dJs (f :: fs) acc δ s = (f δ s).bind fun x s1 => match x with
    | .str z => if (acc ++ z).length ≤ lim then dJs fs (acc ++ z) δ s1 else .stuck
    | _ => .stuck := rfl
@[simp] theorem oMulA_int {a b : Int} : oMulA (.int a) (.int b) s = if cMul a b = true then .ok (.int (a * b)) s else .stuck := rfl
@[simp] theorem oMulA_lst {xs : List D} {k : Int} : oMulA (.lst xs) (.int k) s = if xs.length * k.toNat ≤ lim ∧ -(2 ^ 62) ≤ k ∧ k < 2 ^ 62 then .ok (.lst (List.replicate k.toNat xs).flatten) s else .stuck := rfl
@[simp] theorem dRepl_eq {y z : Str} {f : DE} : dRepl y z f δ s = (f δ s).bind fun x s1 => match x with
  | .str a => if a.length + (a.length + 1) * z.length ≤ lim then .ok (.str (un (Txt.replace (S a) y z))) s1 else .stuck
  | _ => .stuck := rfl
@[simp] theorem bInt_int {i : Int} : bInt [.int i] s = .ok (.int i) s := rfl
@[simp] theorem bInt_bl {b : Bool} : bInt [.bl b] s = .ok (.int (if b then 1 else 0)) s := rfl
@[simp] theorem bInt_str {z : List Nat} : bInt [.str z] s = match PySem.intText? (S z) with
    | some n => if z.length ≤ 640 then .ok (.int n) s else .stuck
    | none => .stuck := rfl
@[simp] theorem bStr_int {i : Int} : bStr [.int i] s = if i.natAbs.log2 < 1920 then .ok (.str (strI i)) s else .stuck := rfl
@[simp] theorem bDivmod_int {i j : Int} : bDivmod [.int i, .int j] s = if (decide (0 < j) && decide (j < 1073741824)) = true then .ok (.tup [.int (i / j), .int (i % j)]) s else .stuck := rfl
/-- a comprehension without a test, its values by a function; with a test -/
theorem lcL_map {t : DTg} {e : DE} (f : D → D) : ∀ (ds acc : List D), acc.length + ds.length ≤ lim → (∀ d ∈ ds, ∃ δ1, t d δ = some δ1 ∧ e δ1 s = .ok (f d) s) → lcL t cYes e δ ds acc s = .ok (.lst (acc ++ ds.map f)) s
  | [], acc, _, _ => by simp
  | d :: ds, acc, hl, h => by
    obtain ⟨δ1, h1, h2⟩ := h d List.mem_cons_self
    rw [List.length_cons] at hl
    rw [lcL_cons, h1]
    dsimp only
    rw [cYes_eq]
    dsimp only
    rw [h2]
    dsimp only
    rw [if_pos (by omega), lcL_map f ds (acc ++ [f d]) (by rw [List.length_append, List.length_singleton]; omega) fun d' hd => h d' (List.mem_cons_of_mem _ hd), List.append_assoc, List.map_cons]
    rfl
theorem lcL_fil {t : DTg} {c : DT} {e : DE} (f : D → D) (p : D → Bool) : ∀ (ds acc : List D), acc.length + ds.length ≤ lim → (∀ d ∈ ds, ∃ δ1, t d δ = some δ1 ∧ c δ1 s = .ok (p d) s ∧ (p d = true → e δ1 s = .ok (f d) s)) → lcL t c e δ ds acc s = .ok (.lst (acc ++ (ds.filter p).map f)) s
  | [], acc, _, _ => by simp
  | d :: ds, acc, hl, h => by
    obtain ⟨δ1, h1, h2, h3⟩ := h d List.mem_cons_self
    rw [List.length_cons] at hl
    rw [lcL_cons, h1]
    dsimp only
    rw [h2]
    cases hp : p d with
    | false =>
      dsimp only
      rw [lcL_fil f p ds acc (by omega) fun d' hd => h d' (List.mem_cons_of_mem _ hd), List.filter_cons_of_neg (by rw [hp]; exact Bool.false_ne_true)]
    | true =>
      dsimp only
      rw [h3 hp]
      dsimp only
      rw [if_pos (by omega), lcL_fil f p ds (acc ++ [f d]) (by rw [List.length_append, List.length_singleton]; omega) fun d' hd => h d' (List.mem_cons_of_mem _ hd), List.append_assoc, List.filter_cons_of_pos hp, List.map_cons]
      rfl
theorem bools_map {α : Type} (g : α → Bool) : ∀ l : List α, boolsOf (l.map fun x => D.bl (g x)) = some (l.map g)
  | [] => rfl
  | x :: l => by
    show (boolsOf (l.map fun x => D.bl (g x))).map (g x :: ·) = _
    rw [bools_map g l]; rfl
end
end Mp
/-! # MpT -/
namespace Mp
open PySem PySem.Spec L2
/-! ## equality of nested lists and tuples, by the deep values -/
def okS (z : List Nat) : Bool := z.all fun c => decide (c < 1114112)
mutual
def datD : Nat → D → Bool
  | _, .non => true
  | _, .bl _ => true
  | _, .int _ => true
  | _, .str z => okS z
  | n + 1, .lst xs => datDs n xs
  | n + 1, .tup xs => datDs n xs
  | _, _ => false
def datDs : Nat → List D → Bool
  | _, [] => true
  | n, x :: xs => datD n x && datDs n xs
end
mutual
def eqD : D → D → Bool
  | .lst xs, .lst ys => eqDs xs ys
  | .tup xs, .tup ys => eqDs xs ys
  | .non, .non => true
  | .bl a, .bl b => a == b
  | .bl a, .int b => (if a then 1 else 0) == b
  | .int a, .bl b => a == (if b then 1 else 0)
  | .int a, .int b => a == b
  | .str a, .str b => a == b
  | _, _ => false
def eqDs : List D → List D → Bool
  | [], [] => true
  | x :: xs, y :: ys => eqD x y && eqDs xs ys
  | _, _ => false
end
mutual
theorem dat_ok : ∀ {n : Nat} {x : D}, datD n x = true → ∃ p, toP x = some p ∧ p.canLay0 = true ∧ p.depth ≤ n
  | _, .non, _ => ⟨_, rfl, rfl, Nat.zero_le _⟩
  | _, .bl _, _ => ⟨_, rfl, rfl, Nat.zero_le _⟩
  | _, .int _, _ => ⟨_, rfl, rfl, Nat.zero_le _⟩
  | n, .str z, h => ⟨.str (S z), rfl, by
      have h' : okS z = true := by cases n <;> exact h
      show PyData.strOk (S z) = true
      unfold PyData.strOk S
      unfold okS at h'
      rw [List.all_eq_true] at h'
      simp only [List.all_toArray, List.all_eq_true, decide_eq_true_eq]
      intro c hc
      simpa using h' c hc, Nat.zero_le _⟩
  | n + 1, .lst xs, h => by
    obtain ⟨ps, h1, h2, h3⟩ := dats_ok (n := n) (xs := xs) h
    exact ⟨.list ps, by unfold toP; rw [h1]; rfl, by unfold PyData.canLay0; exact h2, by unfold PyData.depth; omega⟩
  | n + 1, .tup xs, h => by
    obtain ⟨ps, h1, h2, h3⟩ := dats_ok (n := n) (xs := xs) h
    exact ⟨.tuple ps, by unfold toP; rw [h1]; rfl, by unfold PyData.canLay0; exact h2, by unfold PyData.depth; omega⟩
  | 0, .lst _, h => by cases h
  | 0, .tup _, h => by cases h
  | 0, .scr _, h => by cases h
  | _ + 1, .scr _, h => by cases h
  | 0, .dct _ _, h => by cases h
  | _ + 1, .dct _ _, h => by cases h
  | 0, .obj _ _ _, h => by cases h
  | _ + 1, .obj _ _ _, h => by cases h
  | 0, .loc _, h => by cases h
  | _ + 1, .loc _, h => by cases h
  | 0, .exc _, h => by cases h
  | _ + 1, .exc _, h => by cases h
  | 0, .cls _, h => by cases h
  | _ + 1, .cls _, h => by cases h
  | 0, .ty _, h => by cases h
  | _ + 1, .ty _, h => by cases h
theorem dats_ok : ∀ {n : Nat} {xs : List D}, datDs n xs = true → ∃ ps, toPs xs = some ps ∧ PyData.canLayAll0 ps = true ∧ PyData.depthAll ps ≤ n
  | _, [], _ => ⟨[], rfl, rfl, Nat.zero_le _⟩
  | n, x :: xs, h => by
    have h' : (datD n x && datDs n xs) = true := h
    rw [Bool.and_eq_true] at h'
    obtain ⟨p, h1, h2, h3⟩ := dat_ok h'.1
    obtain ⟨ps, h4, h5, h6⟩ := dats_ok h'.2
    exact ⟨p :: ps, by unfold toPs; rw [h1, h4], by unfold PyData.canLayAll0; rw [h2, h5]; rfl, by unfold PyData.depthAll; omega⟩
end
theorem S_beq (a b : List Nat) : (S a == S b) = (a == b) := by
  rw [beq_dec, beq_dec]
  exact decide_eq_decide.mpr ⟨fun h => S_inj h, fun h => by rw [h]⟩
theorem flat_l {x y : D} {p q : PyData} (fx : flatD x = true) (hy : ∃ m, datD m y = true) (ep : toP x = some p) (eq : toP y = some q) : PyData.eqv p q = eqD x y := by
  obtain ⟨m, hy⟩ := hy
  cases x <;> first | cases fx | skip
  all_goals
    cases ep
    cases y with
    | lst ys =>
      have e : (toPs ys).map PyData.list = some q := eq
      cases h : toPs ys with
      | none => rw [h] at e; cases e
      | some qs => rw [h] at e; cases e; rfl
    | tup ys =>
      have e : (toPs ys).map PyData.tuple = some q := eq
      cases h : toPs ys with
      | none => rw [h] at e; cases e
      | some qs => rw [h] at e; cases e; rfl
    | non => cases eq; rfl
    | bl _ => cases eq; rfl
    | int _ => cases eq; rfl
    | str _ => first | (cases eq; rfl) | (cases eq; exact S_beq _ _)
    | _ => cases m <;> cases hy
mutual
theorem eqv_ok : ∀ {n m : Nat} {x y : D} {p q : PyData}, datD n x = true → datD m y = true → toP x = some p → toP y = some q → PyData.eqv p q = eqD x y
  | n + 1, m, .lst xs, y, p, q, hx, hy, ep, eq => by
    obtain ⟨ps, h1, _, _⟩ := dats_ok (n := n) (xs := xs) hx
    have e : toP (.lst xs) = some (.list ps) := by unfold toP; rw [h1]; rfl
    rw [e] at ep; cases ep
    cases y with
    | lst ys =>
      cases m with
      | zero => cases hy
      | succ m =>
        obtain ⟨qs, h2, _, _⟩ := dats_ok (n := m) (xs := ys) hy
        have e2 : toP (.lst ys) = some (.list qs) := by unfold toP; rw [h2]; rfl
        rw [e2] at eq; cases eq
        unfold PyData.eqv eqD
        exact eqvs_ok (n := n) (m := m) hx hy h1 h2
    | tup ys =>
      cases m with
      | zero => cases hy
      | succ m =>
        obtain ⟨qs, h2, _, _⟩ := dats_ok (n := m) (xs := ys) hy
        have e2 : toP (.tup ys) = some (.tuple qs) := by unfold toP; rw [h2]; rfl
        rw [e2] at eq; cases eq
        rfl
    | non => cases eq; rfl
    | bl _ => cases eq; rfl
    | int _ => cases eq; rfl
    | str _ => cases eq; rfl
    | _ => cases m <;> cases hy
  | n + 1, m, .tup xs, y, p, q, hx, hy, ep, eq => by
    obtain ⟨ps, h1, _, _⟩ := dats_ok (n := n) (xs := xs) hx
    have e : toP (.tup xs) = some (.tuple ps) := by unfold toP; rw [h1]; rfl
    rw [e] at ep; cases ep
    cases y with
    | tup ys =>
      cases m with
      | zero => cases hy
      | succ m =>
        obtain ⟨qs, h2, _, _⟩ := dats_ok (n := m) (xs := ys) hy
        have e2 : toP (.tup ys) = some (.tuple qs) := by unfold toP; rw [h2]; rfl
        rw [e2] at eq; cases eq
        unfold PyData.eqv eqD
        exact eqvs_ok (n := n) (m := m) hx hy h1 h2
    | lst ys =>
      cases m with
      | zero => cases hy
      | succ m =>
        obtain ⟨qs, h2, _, _⟩ := dats_ok (n := m) (xs := ys) hy
        have e2 : toP (.lst ys) = some (.list qs) := by unfold toP; rw [h2]; rfl
        rw [e2] at eq; cases eq
        rfl
    | non => cases eq; rfl
    | bl _ => cases eq; rfl
    | int _ => cases eq; rfl
    | str _ => cases eq; rfl
    | _ => cases m <;> cases hy
  | 0, _, .lst _, _, _, _, hx, _, _, _ => by cases hx
  | 0, _, .tup _, _, _, _, hx, _, _, _ => by cases hx
  | n, m, .non, y, p, q, hx, hy, ep, eq => by cases ep; exact flat_l rfl ⟨m, hy⟩ rfl eq
  | n, m, .bl _, y, p, q, hx, hy, ep, eq => by cases ep; exact flat_l rfl ⟨m, hy⟩ rfl eq
  | n, m, .int _, y, p, q, hx, hy, ep, eq => by cases ep; exact flat_l rfl ⟨m, hy⟩ rfl eq
  | n, m, .str _, y, p, q, hx, hy, ep, eq => by cases ep; exact flat_l rfl ⟨m, hy⟩ rfl eq
  | n, _, .scr _, _, _, _, hx, _, _, _ => by cases n <;> cases hx
  | n, _, .dct _ _, _, _, _, hx, _, _, _ => by cases n <;> cases hx
  | n, _, .obj _ _ _, _, _, _, hx, _, _, _ => by cases n <;> cases hx
  | n, _, .loc _, _, _, _, hx, _, _, _ => by cases n <;> cases hx
  | n, _, .exc _, _, _, _, hx, _, _, _ => by cases n <;> cases hx
  | n, _, .cls _, _, _, _, hx, _, _, _ => by cases n <;> cases hx
  | n, _, .ty _, _, _, _, hx, _, _, _ => by cases n <;> cases hx
theorem eqvs_ok : ∀ {n m : Nat} {xs ys : List D} {ps qs : List PyData}, datDs n xs = true → datDs m ys = true → toPs xs = some ps → toPs ys = some qs → PyData.eqvAll ps qs = eqDs xs ys
  | _, _, [], ys, ps, qs, _, hy, ep, eq => by
    cases ep
    cases ys with
    | nil => cases eq; rfl
    | cons y ys =>
      unfold toPs at eq
      cases h1 : toP y with
      | none => rw [h1] at eq; cases eq
      | some q =>
        cases h2 : toPs ys with
        | none => rw [h1, h2] at eq; cases eq
        | some qs' => rw [h1, h2] at eq; cases eq; rfl
  | n, m, x :: xs, ys, ps, qs, hx, hy, ep, eq => by
    have hx' : (datD n x && datDs n xs) = true := hx
    rw [Bool.and_eq_true] at hx'
    unfold toPs at ep
    cases h3 : toP x with
    | none => rw [h3] at ep; cases ep
    | some p =>
      cases h4 : toPs xs with
      | none => rw [h3, h4] at ep; cases ep
      | some ps' =>
        rw [h3, h4] at ep; cases ep
        cases ys with
        | nil => cases eq; rfl
        | cons y ys =>
          have hy' : (datD m y && datDs m ys) = true := hy
          rw [Bool.and_eq_true] at hy'
          unfold toPs at eq
          cases h1 : toP y with
          | none => rw [h1] at eq; cases eq
          | some q =>
            cases h2 : toPs ys with
            | none => rw [h1, h2] at eq; cases eq
            | some qs' =>
              rw [h1, h2] at eq; cases eq
              unfold PyData.eqvAll eqDs
              rw [eqv_ok hx'.1 hy'.1 h3 h1, eqvs_ok hx'.2 hy'.2 h4 h2]
end
theorem shaped_of {p : PyData} (h1 : p.canLay0 = true) (h2 : p.depth ≤ 64) : SeqAt.shaped p = true := by
  unfold SeqAt.shaped
  rw [h1, decide_eq_true h2]; rfl
theorem scD_eqD {x y : D} {b : Bool} (h : scD x y = some b) : b = eqD x y := by
  unfold scD at h
  split at h <;> first | (cases h; rfl) | cases h
theorem noLoc {s : Sto} {n : Nat} {x : D} (h : datD n x = true) : toPc s x = toP x := by
  cases x with
  | lst xs => rfl
  | loc k => cases n <;> cases h
  | _ => rfl
theorem oEq_dat {b : Bool} {x y : D} {s : Sto} (hx : datD 64 x = true) (hy : datD 64 y = true) : oEqG b x y s = .ok (.bl (b != eqD x y)) s := by
  unfold oEqG
  cases h : scD x y with
  | some c => dsimp only; rw [scD_eqD h]
  | none =>
    obtain ⟨p, h1, h2, h3⟩ := dat_ok hx
    obtain ⟨q, h4, h5, h6⟩ := dat_ok hy
    rw [noLoc hx, noLoc hy, h1, h4]
    dsimp only
    rw [shaped_of h2 h3, shaped_of h5 h6, eqv_ok hx hy h1 h4]
    rfl
section
variable {b : Bool} {xs ys : List D} {s : Sto} {a : Int} {z : List Nat}
theorem oEq_ll (hx : datDs 63 xs = true) (hy : datDs 63 ys = true) : oEqG b (.lst xs) (.lst ys) s = .ok (.bl (b != eqDs xs ys)) s := by rw [oEq_dat (x := .lst xs) (y := .lst ys) hx hy]; unfold eqD; rfl
theorem oEq_tt (hx : datDs 63 xs = true) (hy : datDs 63 ys = true) : oEqG b (.tup xs) (.tup ys) s = .ok (.bl (b != eqDs xs ys)) s := by rw [oEq_dat (x := .tup xs) (y := .tup ys) hx hy]; unfold eqD; rfl
theorem oEq_loc {n : Nat} {y : D} (h : s[n]? = some (.lst xs)) (hx : datDs 63 xs = true) (hy : datD 64 y = true) : oEqG b (.loc n) y s = .ok (.bl (b != eqD (.lst xs) y)) s := by
  have e : oEqG b (.loc n) y s = oEqG b (.lst xs) y s := by
    unfold oEqG
    have e1 : scD (.loc n) y = none := by cases y <;> rfl
    have e2 : scD (.lst xs) y = none := by cases y <;> rfl
    have e3 : toPc s (.loc n) = toPc s (.lst xs) := by unfold toPc; simp [h]
    rw [e1, e2, e3]
  rw [e, oEq_dat (x := .lst xs) hx hy]
theorem ints_lay : ∀ ns : List Int, PyData.canLayAll0 (ns.map PyData.int) = true ∧ PyData.depthAll (ns.map PyData.int) = 0
  | [] => ⟨rfl, rfl⟩
  | n :: ns => by
    obtain ⟨h1, h2⟩ := ints_lay ns
    rw [List.map_cons]
    exact ⟨by unfold PyData.canLayAll0; rw [h1]; rfl, by unfold PyData.depthAll; rw [h2]; rfl⟩
/-- the script == [] -/
theorem oEq_scr0 {ns : List Int} : oEqG b (.scr ns) (.lst []) s = .ok (.bl (b != ns.isEmpty)) s := by
  unfold oEqG
  obtain ⟨h1, h2⟩ := ints_lay ns
  have e1 : toPc s (.scr ns) = some (.list (ns.map PyData.int)) := rfl
  have e2 : toPc s (.lst []) = some (.list []) := rfl
  have e3 : SeqAt.shaped (.list (ns.map PyData.int)) = true := shaped_of (by unfold PyData.canLay0; exact h1) (by unfold PyData.depth; rw [h2]; decide)
  have e4 : scD (.scr ns) (.lst []) = none := rfl
  rw [e4, e1, e2]
  dsimp only
  rw [e3, show SeqAt.shaped (.list []) = true from shaped_of rfl (by decide)]
  cases ns <;> rfl
@[simp] theorem datDs_nil {n : Nat} : datDs n [] = true := by cases n <;> rfl
@[simp] theorem datDs_cons {n : Nat} {x : D} : datDs n (x :: xs) = (datD n x && datDs n xs) := by cases n <;> rfl
@[simp] theorem datD_non {n : Nat} : datD n .non = true := by cases n <;> rfl
@[simp] theorem datD_bl {n : Nat} {c : Bool} : datD n (.bl c) = true := by cases n <;> rfl
@[simp] theorem datD_int {n : Nat} : datD n (.int a) = true := by cases n <;> rfl
@[simp] theorem datD_str {n : Nat} : datD n (.str z) = okS z := by cases n <;> rfl
@[simp] theorem datD_lst {n : Nat} : datD (n + 1) (.lst xs) = datDs n xs := rfl
@[simp] theorem datD_tup {n : Nat} : datD (n + 1) (.tup xs) = datDs n xs := rfl
@[simp] theorem eqDs_nil : eqDs [] [] = true := rfl
@[simp] theorem eqDs_cn {x : D} : eqDs (x :: xs) [] = false := rfl
@[simp] theorem eqDs_nc {x : D} : eqDs [] (x :: xs) = false := rfl
@[simp] theorem eqDs_cc {x y : D} : eqDs (x :: xs) (y :: ys) = (eqD x y && eqDs xs ys) := rfl
@[simp] theorem eqD_int {c : Int} : eqD (.int a) (.int c) = (a == c) := rfl
@[simp] theorem eqD_str {y : List Nat} : eqD (.str z) (.str y) = (z == y) := rfl
@[simp] theorem eqD_bl {c d : Bool} : eqD (.bl c) (.bl d) = (c == d) := rfl
@[simp] theorem eqD_ll : eqD (.lst xs) (.lst ys) = eqDs xs ys := by unfold eqD; rfl
@[simp] theorem eqD_tt : eqD (.tup xs) (.tup ys) = eqDs xs ys := by unfold eqD; rfl
@[simp] theorem eqD_il : eqD (.int a) (.lst ys) = false := rfl
@[simp] theorem eqD_sl : eqD (.str z) (.lst ys) = false := rfl
@[simp] theorem eqD_nl : eqD .non (.lst ys) = false := rfl
@[simp] theorem eqD_li : eqD (.lst xs) (.int a) = false := rfl
@[simp] theorem eqD_ls : eqD (.lst xs) (.str z) = false := rfl
@[simp] theorem eqD_it : eqD (.int a) (.tup ys) = false := rfl
@[simp] theorem eqD_st : eqD (.str z) (.tup ys) = false := rfl
@[simp] theorem eqD_ti : eqD (.tup xs) (.int a) = false := rfl
@[simp] theorem eqD_ts : eqD (.tup xs) (.str z) = false := rfl
@[simp] theorem eqD_lt : eqD (.lst xs) (.tup ys) = false := rfl
@[simp] theorem eqD_tl : eqD (.tup xs) (.lst ys) = false := rfl
end
/-! ## texts: where one sign stands -/
theorem sub1 {t : List Nat} {c i : Nat} : Builtin.Str.subAt (S t) (S [c]) i = decide (t[i]? = some c) := by
  unfold Builtin.Str.subAt
  have e : (S t).cps.extract i (i + (S [c]).length) = ((t.drop i).take 1).toArray := by
    rw [S_len]
    simp [S, List.extract_toArray, List.extract_eq_take_drop]
  rw [e]
  by_cases h : i < t.length
  · rw [List.drop_eq_getElem_cons h, List.take_succ_cons, List.take_zero, List.getElem?_eq_getElem h]
    by_cases h2 : t[i] = c <;> simp [h2, S]
  · rw [List.drop_eq_nil_of_le (by omega), List.getElem?_eq_none (by omega)]
    simp [S]
theorem at1 {t : List Nat} {c i : Nat} : StrLaws.At (S t) (S [c]) (S t).length i ↔ t[i]? = some c := by
  unfold StrLaws.At
  rw [sub1, S_len, S_len]
  constructor
  · rintro ⟨_, h⟩
    simpa using h
  · intro h
    have := (List.getElem?_eq_some_iff.mp h).1
    exact ⟨this, by simpa using h⟩
theorem occ1 {p q : List Nat} {c : Nat} (h : c ∉ p) : ∃ r, Builtin.Str.occurrences (S (p ++ c :: q)) (S [c]) 0 (S (p ++ c :: q)).length 1 = p.length :: r := by
  rcases StrLaws.occ_head (S (p ++ c :: q)) (S [c]) 1 (Nat.le_refl _) with ⟨_, hn⟩ | ⟨i, r, e, ha, hn⟩
  · exact absurd (at1.mpr (by simp)) (hn p.length)
  · refine ⟨r, ?_⟩
    rw [e]
    congr 1
    have h1 := at1.mp ha
    rcases Nat.lt_trichotomy i p.length with hl | he | hg
    · rw [List.getElem?_append_left hl] at h1
      exact absurd (List.mem_of_getElem? h1) h
    · exact he
    · exact absurd (at1.mpr (by simp)) (hn p.length hg)
theorem occ0 {p : List Nat} {c : Nat} (h : c ∉ p) : Builtin.Str.occurrences (S p) (S [c]) 0 (S p).length 1 = [] := by
  rcases StrLaws.occ_head (S p) (S [c]) 1 (Nat.le_refl _) with ⟨e, hn⟩ | ⟨i, r, e, ha, hn⟩
  · exact e
  · exact absurd (List.mem_of_getElem? (at1.mp ha)) h
theorem find1 {p q : List Nat} {c : Nat} (h : c ∉ p) : Txt.find (S (p ++ c :: q)) (S [c]) = p.length := by
  obtain ⟨r, e⟩ := occ1 (q := q) h
  unfold Txt.find
  rw [e]
theorem find0 {p : List Nat} {c : Nat} (h : c ∉ p) : Txt.find (S p) (S [c]) = -1 := by
  unfold Txt.find
  rw [occ0 h]
theorem starts1 {a c : Nat} {r : List Nat} : Txt.startswith (S (a :: r)) (S [c]) = (a == c) := by
  unfold Txt.startswith
  rw [sub1, S_len, S_len]
  by_cases h : a = c <;> simp [h]
theorem starts0 {c : Nat} : Txt.startswith (S []) (S [c]) = false := by
  unfold Txt.startswith
  rw [S_len, S_len]
  rfl
theorem sIx_nat {n d i : Nat} (h : i ≤ n) : HT.sIx n d (some (i : Int)) = i := by
  rw [HT.sIx_nat]; omega
theorem cutL_to {α : Type} {a b : List α} {i : Int} (h : i = (a.length : Int)) : cutL (a ++ b) none (some i) = a := by
  subst h
  unfold cutL
  rw [sIx_nat (by simp)]
  simp [HT.sIx]
theorem cutL_from {α : Type} {a b : List α} {i : Int} (h : i = (a.length : Int)) : cutL (a ++ b) (some i) none = b := by
  subst h
  unfold cutL
  rw [sIx_nat (by simp)]
  simp [HT.sIx]
end Mp
/-! # MpU -/
namespace Mp
open PySem PySem.Spec L2
/-! ## rows for objects, built-ins more -/
section
variable {δ : Env} {s : Sto}
@[simp] theorem obOf_obj {c : Nat} {ns : List Nat} {vs : List D} : obOf s (.obj c ns vs) = some (c, ns, vs) := rfl
@[simp] theorem obOf_loc {n : Nat} : obOf s (.loc n) = match s[n]? with
    | some (.obj c ns vs) => some (c, ns, vs)
    | _ => none := rfl
@[simp] theorem dFld_eq {cs : List Nat} {nF i : Nat} {f : DE} : dFld cs nF i f δ s = (f δ s).bind fun x s1 => match obOf s1 x with
  | some (c, ns, vs) => if (decide (c ∈ cs) && okN nF ns) = true then match lkF i ns vs with
    | some d => .ok d s1
    | none => .stuck
    else .stuck
  | none => .stuck := rfl
theorem dMeth_eq {nF : Nat} {tbl : List (Nat × (List D → Sto → Res D))} {f : DE} {fa : DA} : dMeth nF tbl f fa δ s = (f δ s).bind fun x s1 => match obOf s1 x with
  | some (c, ns, _) => if okN nF ns = true then match tbl.lookup c with
    | some φ => (fa δ s1).bind fun ds s2 => φ (x :: ds) s2
    | none => .stuck
    else .stuck
  | none => .stuck := rfl
@[simp] theorem sFldS_eq {cs : List Nat} {nF i : Nat} {fv fo : DE} : sFldS cs nF i fv fo δ s = (fv δ s).out δ fun d s1 => (fo δ s1).out δ fun o s2 => match o with
  | .loc n => match s2[n]? with
    | some (.obj c ns vs) => if (decide (c ∈ cs) && (okN nF ns && decide (ns.length < 1000))) = true then .nx δ (s2.set n (.obj c (putN i ns) (putD i d ns vs))) else .stuck
    | _ => .stuck
  | _ => .stuck := rfl
@[simp] theorem okN_nil {n : Nat} : okN n [] = true := rfl
@[simp] theorem okN_cons {n m : Nat} {ns : List Nat} : okN n (m :: ns) = (decide (m < n) && okN n ns) := rfl
@[simp] theorem lkF_cons {i n : Nat} {ns : List Nat} {v : D} {vs : List D} : lkF i (n :: ns) (v :: vs) = if n = i then some v else lkF i ns vs := rfl
@[simp] theorem lkF_nil {i : Nat} {vs : List D} : lkF i [] vs = none := by cases vs <;> rfl
@[simp] theorem putN_nil {i : Nat} : putN i [] = [i] := rfl
@[simp] theorem putN_cons {i n : Nat} {ns : List Nat} : putN i (n :: ns) = if n = i then n :: ns else n :: putN i ns := rfl
@[simp] theorem putD_nil {i : Nat} {d : D} : putD i d [] [] = [d] := rfl
@[simp] theorem putD_cons {i n : Nat} {ns : List Nat} {d v : D} {vs : List D} : putD i d (n :: ns) (v :: vs) = if n = i then d :: vs else v :: putD i d ns vs := rfl
@[simp] theorem lst_set {c d : Cell} : (s ++ [c]).set s.length d = s ++ [d] := by simp
@[simp] theorem lst_get {c : Cell} : (s ++ [c])[s.length]? = some c := by simp
theorem below_ints {n : Nat} : ∀ xs : List Int, belows n (xs.map D.int) = true
  | [] => rfl
  | x :: xs => by rw [List.map_cons]; unfold belows; rw [below_ints xs]; rfl
theorem below_strs {n : Nat} : ∀ xs : List (List Nat), belows n (xs.map D.str) = true
  | [] => rfl
  | x :: xs => by rw [List.map_cons]; unfold belows; rw [below_strs xs]; rfl
theorem mkOF_ok {c : Nat} {φ : List D → Sto → Res D} {ds : List D} {ns : List Nat} {vs : List D} (h : φ (.loc s.length :: ds) (s ++ [.obj c [] []]) = .ok .non (s ++ [.obj c ns vs])) (hs : s.all (Cell.below s.length) = true) (hv : belows s.length vs = true) : mkOF c φ ds s = .ok (.obj c ns vs) s := by
  unfold mkOF mkO
  rw [h]
  unfold frzO
  dsimp only
  rw [lst_get]
  dsimp only
  have e : (s ++ [Cell.obj c ns vs]).take s.length = s := by simp
  rw [if_pos (by rw [e]; simp only [Bool.and_eq_true, decide_eq_true_eq]; exact ⟨trivial, by simp, hv, hs⟩), e]
theorem mkOF_ex {c k : Nat} {φ : List D → Sto → Res D} {ds : List D} {cl : Cell} (h : φ (.loc s.length :: ds) (s ++ [.obj c [] []]) = .exc k (s ++ [cl])) (hs : s.all (Cell.below s.length) = true) : mkOF c φ ds s = .exc k s := by
  unfold mkOF mkO
  rw [h]
  show cutX s.length k (s ++ [cl]) = _
  unfold cutX
  have e : (s ++ [cl]).take s.length = s := by simp
  rw [if_neg (by simp), if_pos (by rw [e]; simp only [Bool.and_eq_true, decide_eq_true_eq]; exact ⟨by simp, hs⟩), e]
@[simp] theorem dFrz_eq {f : DE} : dFrz f δ s = frzL s.length (f δ s) := rfl
theorem frzL_ok {xs : List D} (hs : s.all (Cell.below s.length) = true) (hv : belows s.length xs = true) : frzL s.length (.ok (.loc s.length) (s ++ [.lst xs])) = .ok (.lst xs) s := by
  unfold frzL
  dsimp only
  rw [lst_get]
  dsimp only
  have e : (s ++ [Cell.lst xs]).take s.length = s := by simp
  rw [if_pos (by rw [e]; simp only [Bool.and_eq_true, decide_eq_true_eq]; exact ⟨trivial, by simp, hv, hs⟩), e]
@[simp] theorem oAddC_lst {a b : List D} : oAddC (.lst a) (.lst b) s = if a.length + b.length ≤ lim then .ok (.loc s.length) (s ++ [.lst (a ++ b)]) else .stuck := rfl
@[simp] theorem intsOf_nil : intsOf [] = some [] := rfl
@[simp] theorem intsOf_int {x : Int} {r : List D} : intsOf (.int x :: r) = (intsOf r).map (x :: ·) := rfl
theorem intsOf_map : ∀ xs : List Int, intsOf (xs.map D.int) = some xs
  | [] => rfl
  | x :: xs => by rw [List.map_cons, intsOf_int, intsOf_map xs]; rfl
@[simp] theorem bSum_lst {xs : List D} : bSum [.lst xs] s = match intsOf xs with
    | some ns => .ok (.int ns.sum) s
    | none => .stuck := rfl
@[simp] theorem bMaxL_lst {xs : List D} : bMaxL [.lst xs] s = match intsOf xs with
    | some ns => if ns ≠ [] then .ok (.int (maxI ns)) s else .stuck
    | none => .stuck := rfl
@[simp] theorem dMaxD_eq {fa fz : DA} : dMaxD fa fz δ s = (fa δ s).bind fun ds s1 => (fz δ s1).bind fun zs s2 => bMaxD ds zs s2 := rfl
@[simp] theorem bMaxD_lst {xs : List D} {d : Int} : bMaxD [.lst xs] [.int d] s = match intsOf xs with
    | some ns => .ok (.int (if ns = [] then d else maxI ns)) s
    | none => .stuck := rfl
@[simp] theorem bList_lst {xs : List D} : bList [.lst xs] s = .ok (.lst xs) s := rfl
@[simp] theorem bList_tup {xs : List D} : bList [.tup xs] s = .ok (.lst xs) s := rfl
@[simp] theorem bList_loc {n : Nat} : bList [.loc n] s = match s[n]? with
    | some (.lst xs) => .ok (.lst xs) s
    | _ => .stuck := by
  unfold bList
  simp only [lqOf_loc]
  cases s[n]? with
  | none => rfl
  | some c => cases c <;> rfl
@[simp] theorem dSortedSet_eq {f : DE} : dSortedSet f δ s = (f δ s).bind fun x s1 => match lqOf s1 x with
  | some xs => match intsOf xs with
    | some ns => if ns.length < 63 then .ok (.lst ((sortI ns).map D.int)) s1 else .stuck
    | none => .stuck
  | none => .stuck := rfl
@[simp] theorem dLcA_eq {f : DE} {t : DTg} {c : DT} {e : DE} {vs : List Nat} : dLcA f t c e vs δ s = (f δ s).bind fun x s1 => match itCel x s1 with
  | some (ds, s2, h) => backO h (lcL t c e (wipeE δ vs) ds [] s2)
  | none => .stuck := rfl
@[simp] theorem itCel_lst {xs : List D} : itCel (.lst xs) s = some (xs, s, none) := rfl
@[simp] theorem itCel_tup {xs : List D} : itCel (.tup xs) s = some (xs, s, none) := rfl
@[simp] theorem itCel_loc {n : Nat} : itCel (.loc n) s = match s[n]? with
    | some (.lst xs) => some (xs, s.set n .dead, some (n, xs))
    | _ => none := rfl
@[simp] theorem backO_none {r : Res D} : backO none r = r := rfl
@[simp] theorem backO_some {n : Nat} {xs : List D} {r : Res D} : backO (some (n, xs)) r = r.back n xs := rfl
@[simp] theorem dListR_eq {f : DE} : dListR f δ s = (f δ s).bind fun x s1 => match x with
  | .int n => if 0 ≤ n ∧ n ≤ 1000 then .ok (.lst (intsD 0 n.toNat)) s1 else .stuck
  | _ => .stuck := rfl
@[simp] theorem mClear_loc {n : Nat} : mClear (.loc n) [] s = match s[n]? with
    | some (.lst _) => .ok .non (s.set n (.lst []))
    | _ => .stuck := rfl
/-! ### isinstance -/
section
variable {parT par cs : List Nat}
theorem iso_cls {x : D} {c d : Nat} {ns : List Nat} {vs : List D} (hd : d ∈ cs) (hx : obOf s x = some (c, ns, vs)) (hc : c ∈ cs) (he : ∀ k, x ≠ .exc k) : bIsO parT par cs [x, .cls d] s = .ok (.bl (ancF par par.length c d)) s := by
  unfold bIsO
  split
  · rename_i k _ h
    cases h
    exact absurd rfl (he k)
  · rename_i h
    cases h
    rw [if_pos hd, hx]
    exact if_pos hc
  · rename_i h1 h2
    exact absurd rfl (h2 _ _)
theorem iso_no {x : D} {d : Nat} {t : String} (hd : d ∈ cs) (hx : obOf s x = none) (ht : tyOf s x = some t) (hk : t ∈ kiTy) : bIsO parT par cs [x, .cls d] s = .ok (.bl false) s := by
  unfold bIsO
  split
  · rename_i h
    cases h
    cases ht
  · rename_i h
    cases h
    rw [if_pos hd, hx]
    dsimp only
    rw [ht]
    exact if_pos hk
  · rename_i h1 h2
    exact absurd rfl (h2 _ _)
theorem iso_ty {x : D} {n t : String} {b : Bool} (ht : tyOf s x = some t) (hk : kitB t n = some b) : bIsO parT par cs [x, .ty n] s = .ok (.bl b) s := by
  unfold bIsO
  split
  · rename_i h
    cases h
    cases ht
  · rename_i h
    cases h
  · unfold bIsA
    split
    · rename_i h; cases h
    · rename_i h; cases h; cases ht
    · rename_i h
      cases h
      rw [ht]
      dsimp only
      rw [hk]
    · rename_i h1 h2 h3
      exact absurd rfl (h3 _ _)
theorem iso_x {k : Nat} {c : D} : bIsO parT par cs [.exc k, c] s = bIsA parT [.exc k, c] s := rfl
end
theorem kit_ii : kitB "int" "int" = some true := by decide +kernel
theorem kit_ib : kitB "int" "bool" = some false := by decide +kernel
theorem kit_bb : kitB "bool" "bool" = some true := by decide +kernel
theorem kit_bi : kitB "bool" "int" = some true := by decide +kernel
theorem kit_ll : kitB "list" "list" = some true := by decide +kernel
theorem kit_si : kitB "str" "int" = some false := by decide +kernel
theorem kit_ni : kitB "NoneType" "int" = some false := by decide +kernel
theorem kit_li : kitB "list" "int" = some false := by decide +kernel
theorem kit_ti : kitB "tuple" "int" = some false := by decide +kernel
theorem kit_di : kitB "dict" "int" = some false := by decide +kernel
theorem kit_tl : kitB "tuple" "list" = some false := by decide +kernel
theorem kit_nl : kitB "NoneType" "list" = some false := by decide +kernel
theorem kit_sl : kitB "str" "list" = some false := by decide +kernel
theorem kit_il : kitB "int" "list" = some false := by decide +kernel
theorem kit_bl : kitB "bool" "list" = some false := by decide +kernel
theorem kit_dl : kitB "dict" "list" = some false := by decide +kernel
theorem kit_ss : kitB "str" "str" = some true := by decide +kernel
theorem kit_ns : kitB "NoneType" "str" = some false := by decide +kernel
theorem kit_is : kitB "int" "str" = some false := by decide +kernel
theorem kit_bs : kitB "bool" "str" = some false := by decide +kernel
theorem kit_ls : kitB "list" "str" = some false := by decide +kernel
theorem kit_ts : kitB "tuple" "str" = some false := by decide +kernel
theorem kit_ds : kitB "dict" "str" = some false := by decide +kernel
@[simp] theorem tyOf_non : tyOf s .non = some "NoneType" := rfl
@[simp] theorem tyOf_bl {b : Bool} : tyOf s (.bl b) = some "bool" := rfl
@[simp] theorem tyOf_int {b : Int} : tyOf s (.int b) = some "int" := rfl
@[simp] theorem tyOf_str {b : List Nat} : tyOf s (.str b) = some "str" := rfl
@[simp] theorem tyOf_lst {b : List D} : tyOf s (.lst b) = some "list" := rfl
@[simp] theorem tyOf_tup {b : List D} : tyOf s (.tup b) = some "tuple" := rfl
@[simp] theorem tyOf_dct {ks b : List D} : tyOf s (.dct ks b) = some "dict" := rfl
/-! ### membership, menus -/
theorem any_int {x : Int} : ∀ xs : List Int, ((xs.map D.int).any fun y => eqF y (.int x)) = decide (x ∈ xs)
  | [] => by simp
  | y :: ys => by
    rw [List.map_cons, List.any_cons, any_int ys]
    show ((y == x) || _) = _
    by_cases h : y = x
    · simp [h]
    · have : ¬ x = y := fun z => h z.symm
      simp [h, this]
theorem flat_ints : ∀ xs : List Int, (xs.map D.int).all flatD = true
  | [] => rfl
  | x :: xs => by rw [List.map_cons, List.all_cons, flat_ints xs]; rfl
@[simp high] theorem oIn_ints {neg : Bool} {x : Int} {xs : List Int} : oInA neg (.int x) (.lst (xs.map D.int)) s = .ok (.bl (neg != decide (x ∈ xs))) s := by
  rw [oInA_lst, if_pos (by rw [flat_ints]; rfl), any_int]
theorem strsOf_map : ∀ xs : List (List Nat), strsOf (xs.map D.str) = some xs
  | [] => rfl
  | x :: xs => by
    show (strsOf (xs.map D.str)).map (x :: ·) = _
    rw [strsOf_map xs]; rfl
theorem un_S (x : List Nat) : un (S x) = x := by simp [un, S]
theorem mJoin_ok {a : List Nat} {ys : List (List Nat)} (h : (ys.map List.length).sum + ys.length * a.length ≤ lim) : mJoin (.str a) [.lst (ys.map D.str)] s = .ok (.str (TL.joinL a ys)) s := by
  unfold mJoin
  simp only [lqOf_lst, Option.some_or, strsOf_map]
  rw [if_pos h]
  have e : Txt.join (S a) (ys.map S) = S (TL.joinL a ys) := SX.join_S a ys
  rw [e, un_S]
theorem eqDs_self : ∀ ws : List (List Nat), eqDs (ws.map D.str) (ws.map D.str) = true
  | [] => rfl
  | w :: ws => by rw [List.map_cons, eqDs_cc, eqDs_self ws, eqD_str]; simp
theorem datDs_strs {n : Nat} : ∀ {ws : List (List Nat)}, (∀ w ∈ ws, okS w = true) → datDs n (ws.map D.str) = true
  | [], _ => by simp
  | w :: ws, h => by
    rw [List.map_cons, datDs_cons, datDs_strs fun v hv => h v (List.mem_cons_of_mem _ hv), datD_str, h w List.mem_cons_self]
    rfl
theorem datDs_ints {n : Nat} : ∀ xs : List Int, datDs n (xs.map D.int) = true
  | [] => by simp
  | x :: xs => by rw [List.map_cons, datDs_cons, datDs_ints xs, datD_int]; rfl
theorem eqDs_ints : ∀ xs ys : List Int, eqDs (xs.map D.int) (ys.map D.int) = (xs == ys)
  | [], [] => rfl
  | [], y :: ys => rfl
  | x :: xs, [] => rfl
  | x :: xs, y :: ys => by rw [List.map_cons, List.map_cons, eqDs_cc, eqDs_ints xs ys, eqD_int]; rfl
theorem bAll_true {xs : List D} (h : ∀ x ∈ xs, x = .bl true) : bAll [.lst xs] s = .ok (.bl true) s := by
  have e : boolsOf xs = some (xs.map fun _ => true) := by
    induction xs with
    | nil => rfl
    | cons x xs ih =>
      rw [h x List.mem_cons_self]
      show (boolsOf xs).map (true :: ·) = _
      rw [ih fun y hy => h y (List.mem_cons_of_mem _ hy)]
      rfl
  unfold bAll bAnyAll
  simp only [lqOf_lst, e]
  simp
end
end Mp
/-! # MpV -/
namespace PySem.SeqAt
open AutoSeq1 (wpAny_loadPart')
open MeetsSeq MeetsSeq2 MeetsSeq3 SeqRoads2
section
variable {prog : Program} {w : World}
theorem mp_list_neIn (l b : Addr) (items items2 : Array Value) (n n2 : Nat) (dd dd2 : Option Addr) (sl sl2 : Array (Option Value)) (hsz : items.size ≠ items2.size) :
    MeetsIn prog w (Builtin.«list.__eq__» ⟨[.ref l, .ref b], []⟩)
      (fun A R s => s.heap.get? l = some { cls := .type "list", dict := dd, data := .seq items n, slots := sl } ∧ s.heap.get? b = some { cls := .type "list", dict := dd2, data := .seq items2 n2, slots := sl2 } ∧
        R (.ok (.ret (.bool false))) s) := by
  intro A R s h
  obtain ⟨hp, g, d, tk, os⟩ := s; obtain ⟨hl, hb, h⟩ := h
  have f3 := AutoSeq1.sub_list_list
  have hne : (items.size != items2.size) = true := by simpa using hsz
  wp_walk using wpAny_loadPart' hl, wpAny_loadPart' hb
  exact h
theorem mp_rc_ne {A : Around} {s : Shared} {l b : Addr} {items items2 : Array Value} (hl : s.heap.IsList l items) (hb : s.heap.IsList b items2) (hsz : items.size ≠ items2.size) (hu : A.units < cLine)
    (E Q : Value → Shared → Prop) (h : Q (.bool false) s) : wpAny (model prog w) A (richCompare .Eq (.ref l) (.ref b)) Q E s := by
  obtain ⟨⟨cls, dd, data, sl⟩, ho, hc, n, hd⟩ := id hl
  obtain ⟨⟨cls2, dd2, data2, sl2⟩, ho2, hc2, n2, hd2⟩ := id hb
  simp only at hc hd hc2 hd2
  subst hc hd hc2 hd2
  have ta : s.TypeIs (.ref l) "list" := ⟨_, ho, rfl⟩
  have tb : s.TypeIs (.ref b) "list" := ⟨_, ho2, rfl⟩
  exact wpAny_richCompare_same_room (op := .Eq) ta tb F.slot_list_eq (call_meetsIn F.slot_list_eq ta F.entry_list_eq (F.args_list_eq_2 _ _) (mp_list_neIn l b items items2 n n2 dd dd2 sl sl2 hsz)
    ⟨ho, ho2, show Value.bool false ≠ Value.notImplemented ∧ Q (.bool false) s from ⟨(fun x => nomatch x), h⟩⟩) hu
theorem mp_dict_int (l : Addr) (o : Obj) (hc : o.cls = .type "dict") (b : Int) (u : Tok) :
    Meets (Builtin.«dict.__eq__» ⟨[.ref l, .int b u], []⟩) (fun _ R s => s.heap.get? l = some o ∧ R (.ok (.ret .notImplemented)) s) :=
  .of_wp fun prog w A R s h => by
    obtain ⟨hp, g, d, tk, os⟩ := s; obtain ⟨hl, h⟩ := h
    have f1 := F.sub_int_dict
    obtain ⟨oc, od, odt, osl⟩ := o
    simp only at hc
    subst hc
    wp_walk using wpAny_loadPart' hl
    exact ⟨_, rfl, h⟩
theorem mp_int_dict (l : Addr) (od : Option Addr) (es : Array DictEntry) (ep : Nat) (osl : Array (Option Value)) (b : Int) (u : Tok) :
    Meets (Builtin.«int.__eq__» ⟨[.int b u, .ref l], []⟩) (fun _ R s => s.heap.get? l = some ⟨.type "dict", od, .dict es ep, osl⟩ ∧ R (.ok (.ret .notImplemented)) s) :=
  .of_wp fun prog w A R s h => by
    obtain ⟨hp, g, d, tk, os⟩ := s; obtain ⟨hl, h⟩ := h
    wp_walk using wpAny_loadPart' hl, wpAny_load hl
    exact ⟨_, rfl, h⟩
theorem mp_eq_di {A : Around} {s : Shared} {l : Addr} {o : Obj} (b : Int) (u : Tok) {es : Array DictEntry} {ep : Nat} (ho : s.heap.get? l = some o) (hc : o.cls = .type "dict") (hd : o.data = .dict es ep) (hu : A.units < cLine) : EqAt A s (.ref l) (.int b u) false := fun prog w E Q h => by
  obtain ⟨oc, od, odt, osl⟩ := o
  simp only at hc hd
  subst hc hd
  unfold eqBool
  refine wpAny_holding ?_
  refine wpAny_ite_split (fun hab => absurd (eq_of_beq hab) nofun) (fun _ => ?_)
  refine wpAny_bind (rc_eq_decline_or (k := false) ⟨_, ho, rfl⟩ (typeIs_int s b u) (by decide) F.sub_int_dict F.slot_dict_eq F.slot_int_eq_refl
    (fun _ hq => call_meets F.slot_dict_eq ⟨_, ho, rfl⟩ F.entry_dict_eq (F.args_dict_eq_2 _ _) (mp_dict_int l _ rfl b u) ⟨ho, hq⟩)
    (fun _ hq => call_meets F.slot_int_eq_refl (typeIs_int s b u) F.entry_int_eq (F.args_int_eq_2 _ _) (mp_int_dict l od es ep osl b u) ⟨ho, hq⟩)
    (fun _ hq => wpAny_of_eq (rfl : isSame (.ref l) (.int b u) = pure false) hq) (.inr hu) (wpAny_truthy_bool h))
end
end PySem.SeqAt
namespace Mp
open PySem PySem.Spec PyProof.Rows L2
/-! ## == of lists, empty dicts and whole numbers among -/
/-- an item of the one list and its like of the other -/
def ElX (K : PySem.W.Frag) (H : Hp) (x y : V) (b : Bool) : Prop := (∃ i j, x = .int i ∧ y = .int j ∧ b = (i == j)) ∨ (∃ d kvs j, x = .ref d ∧ Rd H d (.dK kvs) ∧ y = .int j ∧ b = false)
inductive ElsX (K : PySem.W.Frag) (H : Hp) : List V → List V → List Bool → Prop
  | nil : ElsX K H [] [] []
  | cons {x y : V} {b : Bool} {xs ys : List V} {bs : List Bool} (h : ElX K H x y b) (r : ElsX K H xs ys bs) : ElsX K H (x :: xs) (y :: ys) (b :: bs)
def rEqX (K : PySem.W.Frag) (neg : Bool) : R2 := fun x y H Q => ∃ l b xs ys, x = .ref l ∧ y = .ref b ∧ SqL K H l xs ∧ SqL K H b ys ∧
  ((xs.length ≠ ys.length ∧ Q (.bl neg) H) ∨ ∃ bs, ElsX K H xs ys bs ∧ Q (.bl (neg != bs.all id)) H)
section
variable {X : Cx} {pins : List (Addr × Obj)} {σ : L2.St} {H : Hp} {s : Shared}
theorem ElsX.at {K : PySem.W.Frag} : ∀ {xs ys : List V} {bs : List Bool}, ElsX K H xs ys bs → ∀ j, j < xs.length → ∃ x y b, xs[j]? = some x ∧ ys[j]? = some y ∧ bs[j]? = some b ∧ ElX K H x y b
  | _, _, _, .nil, j, hj => by simp at hj
  | _, _, _, .cons h r, 0, _ => ⟨_, _, _, rfl, rfl, rfl, h⟩
  | _, _, _, .cons h r, j + 1, hj => by
    obtain ⟨x, y, b, h1, h2, h3, h4⟩ := r.at j (by simpa using hj)
    exact ⟨x, y, b, by simpa using h1, by simpa using h2, by simpa using h3, h4⟩
theorem ElsX.len {K : PySem.W.Frag} : ∀ {xs ys : List V} {bs : List Bool}, ElsX K H xs ys bs → xs.length = ys.length ∧ bs.length = xs.length
  | _, _, _, .nil => ⟨rfl, rfl⟩
  | _, _, _, .cons h r => by simp [r.len.1, r.len.2]
theorem all_range {bs : List Bool} : (List.range bs.length).all (fun j => bs.getD j true) = bs.all id := by
  rw [Bool.eq_iff_iff, List.all_eq_true, List.all_eq_true]
  constructor
  · intro h b hb
    obtain ⟨j, hj, e⟩ := List.getElem_of_mem hb
    have := h j (List.mem_range.mpr hj)
    rw [List.getD_eq_getElem?_getD, List.getElem?_eq_getElem hj, e] at this
    exact this
  · intro h j hj
    have hj' := List.mem_range.mp hj
    rw [List.getD_eq_getElem?_getD, List.getElem?_eq_getElem hj']
    exact h _ (List.getElem_mem hj')
theorem op_eqX (hu : X.A.units + 64 < cLine) : OpR X (compareOp .Eq) (rEqX X.K false) := by
  intro pins s σ H x y v u Q I rx ry h
  obtain ⟨l, b, xs, ys, rfl, rfl, hx, hy, h⟩ := h
  cases (show v = Value.ref l from rx)
  cases (show u = Value.ref b from ry)
  obtain ⟨its, r1, p1, z1⟩ := I.list hx
  obtain ⟨jts, r2, p2, z2⟩ := I.list hy
  show wpAny _ _ (richCompare .Eq (.ref l) (.ref b)) _ _ _
  rcases h with ⟨hne, q⟩ | ⟨bs, hE, q⟩
  · exact SeqAt.mp_rc_ne p1.isList p2.isList (by simp; rw [← r1.length, ← r2.length]; exact hne) (by omega) _ _ ⟨.bl false, H, I, rfl, q⟩
  · obtain ⟨e1, e2⟩ := hE.len
    refine SeqAt.rcP_lists (e := fun j => bs.getD j true) p1.isList p2.isList (by simp; rw [← r1.length, ← r2.length]; exact e1) (by omega) (fun j h1 h2 => ?_) _ _ ?_
    · have hj : j < xs.length := by rw [r1.length]; simpa using h1
      obtain ⟨a, c, k, q1, q2, q3, q4⟩ := hE.at j hj
      obtain ⟨v1, w1, rv1⟩ := r1.get q1
      obtain ⟨v2, w2, rv2⟩ := r2.get q2
      have f1 : its.toArray[j] = v1 := by
        rw [List.getElem?_eq_some_iff] at w1
        obtain ⟨_, w1⟩ := w1
        simpa using w1
      have f2 : jts.toArray[j] = v2 := by
        rw [List.getElem?_eq_some_iff] at w2
        obtain ⟨_, w2⟩ := w2
        simpa using w2
      rw [f1, f2]
      have f3 : bs.getD j true = k := by rw [List.getD_eq_getElem?_getD, q3]; rfl
      rw [f3]
      rcases q4 with ⟨i, i2, rfl, rfl, rfl⟩ | ⟨d, kvs, i2, rfl, hd, rfl, rfl⟩
      · obtain ⟨t, rfl⟩ := rv1
        obtain ⟨t2, rfl⟩ := rv2
        exact (SeqAt.EqAt.int_int i t i2 t2).eqP
      · cases (show v1 = Value.ref d from rv1)
        obtain ⟨t2, rfl⟩ := rv2
        obtain ⟨_, _, vs, _, o, es, ep, g1, g2, g3, _⟩ := dk_rd I.hok hd
        exact (SeqAt.mp_eq_di i2 t2 g1 g2.1 g3 (by show X.A.units + 1 < cLine; omega)).eqP
    · have e3 : its.toArray.size = bs.length := by simp; rw [← r1.length]; exact e2.symm
      rw [e3, all_range]
      exact ⟨.bl _, H, I, rfl, by simpa using q⟩
end
def elX : D → D → Option Bool
  | .int a, .int b => some (a == b)
  | .dct _ _, .int _ => some false
  | _, _ => none
def elsX : List D → List D → Option (List Bool)
  | [], [] => some []
  | x :: xs, y :: ys => match elX x y, elsX xs ys with
    | some b, some bs => some (b :: bs)
    | _, _ => none
  | _, _ => none
def oEqX : DOp := fun x y s => match lqOf s x, lqOf s y with
  | some xs, some ys => if xs.length ≠ ys.length then .ok (.bl false) s else match elsX xs ys with
    | some bs => .ok (.bl (bs.all id)) s
    | none => .stuck
  | _, _ => .stuck
def oEqB : DOp := fun x y s => match oEqG false x y s with
  | .stuck => oEqX x y s
  | r => r
def rEqB (K : PySem.W.Frag) : R2 := orR (rEqA K) (rEqX K false)
theorem op_eqB {X : Cx} (hu : X.A.units + 64 < cLine) : OpR X (compareOp .Eq) (rEqB X.K) := OpR.or (op_eqA hu) (op_eqX hu)
section
variable {T : Tb}
theorem elX_ok {P : Hp} {ι : List Addr} {F : Hp} {s : Sto} {H : Hp} (R : RelH T P ι F s H) {x y : D} {v u : V} {b : Bool} (rx : Rp T F ι x v) (ry : Rp T F ι y u) (h : elX x y = some b) : ElX T.K H v u b := by
  unfold elX at h
  split at h
  · cases h
    unfold Rp at rx ry
    exact .inl ⟨_, _, rx, ry, rfl⟩
  · cases h
    unfold Rp at rx ry
    obtain ⟨a, kvs, e, q, _⟩ := rx
    exact .inr ⟨a, kvs, _, e, rd_mono R.sub q, ry, rfl⟩
  · cases h
theorem elsX_ok {P : Hp} {ι : List Addr} {F : Hp} {s : Sto} {H : Hp} (R : RelH T P ι F s H) : ∀ {xs ys : List D} {vs us : List V} {bs : List Bool}, Rps T F ι xs vs → Rps T F ι ys us → elsX xs ys = some bs → ElsX T.K H vs us bs
  | [], [], vs, us, bs, rx, ry, h => by unfold Rps at rx ry; subst rx ry; cases h; exact .nil
  | [], y :: ys, vs, us, bs, rx, ry, h => by cases h
  | x :: xs, [], vs, us, bs, rx, ry, h => by cases h
  | x :: xs, y :: ys, vs, us, bs, rx, ry, h => by
    unfold Rps at rx ry
    obtain ⟨v, vs, rfl, x1, x2⟩ := rx
    obtain ⟨u, us, rfl, y1, y2⟩ := ry
    unfold elsX at h
    split at h
    · rename_i b bs' h1 h2
      cases h
      exact .cons (elX_ok R x1 y1 h1) (elsX_ok R x2 y2 h2)
    · cases h
theorem do_eqB : DenOp T (rEqB T.K) oEqB := by
  intro x y dx dy H P ι F s Q E R rx ry post
  unfold oEqB at post
  cases e : oEqG false dx dy s with
  | ok d s1 => rw [e] at post; exact .inl (do_eq x y dx dy H P ι F s Q E R rx ry (by show Post T P (Rp T) Q E F ι (oEqG false dx dy s); rw [e]; exact post))
  | exc k s1 => rw [e] at post; exact .inl (do_eq x y dx dy H P ι F s Q E R rx ry (by show Post T P (Rp T) Q E F ι (oEqG false dx dy s); rw [e]; exact post))
  | stuck =>
    rw [e] at post
    have post1 : Post T P (Rp T) Q E F ι (match lqOf s dx, lqOf s dy with
      | some xs, some ys => if xs.length ≠ ys.length then .ok (.bl false) s else match elsX xs ys with
        | some bs => .ok (.bl (bs.all id)) s
        | none => .stuck
      | _, _ => .stuck) := post
    refine .inr ?_
    split at post1
    · rename_i xs ys h1 h2
      obtain ⟨a, vs, rfl, q1, r1⟩ := lq_of R rx h1
      obtain ⟨b, us, rfl, q2, r2⟩ := lq_of R ry h2
      split at post1
      · rename_i hne
        exact ⟨a, b, vs, us, rfl, rfl, q1, q2, .inl ⟨by rw [← r1.len, ← r2.len]; exact hne, post1.here R (by unfold Rp; rfl)⟩⟩
      · split at post1
        · rename_i bs hb
          refine ⟨a, b, vs, us, rfl, rfl, q1, q2, .inr ⟨bs, elsX_ok R r1 r2 hb, ?_⟩⟩
          simp only [Bool.false_bne]
          exact post1.here R (by unfold Rp; rfl)
        · exact post1.elim
    · exact post1.elim
end
end Mp
/-! # MpW -/
namespace Mp
open PySem PySem.Spec PyProof.Rows L2
/-! ## defs with defaults -/
section
variable {T : Tb} {P : Program} {w : World} {mg : Str → Option Value} {base : Heap}
/-- a def that may be called without its last arguments -/
structure Cld (T : Tb) (P : Program) (w : World) (mg : Str → Option Value) (base : Heap) (x : Str) (k n : Nat) (φ : List D → Sto → Res D) (dd : List D) : Prop where
  ex : ∃ (f : Addr) (fd : FuncData) (ps : List Str) (ds : List Value) (dvs : List V), mg x = some (.ref f) ∧ PySem.W.keepIn T.K (.ref f) = true ∧ Binds T.K fd ps ds ∧ Vals dvs ds ∧ (∀ F ι, Rps T F ι dd dvs) ∧ FnOk P w T.K mg base (L2.CX P w) k f fd ps (spD T n φ)
theorem dfl_all {x qual : Str} {params : Arguments} {body : List Stmt} {scope : Scope} {dvs : List V} {kws : List (Str × V)} {f : Addr} {fd : FuncData} {ps : List Str} {K : PySem.W.Frag} (F : FunD K x qual params body scope dvs kws f fd) (hd : dvs ≠ [])
    (h : ∀ (T : Addr) (kV doc pm : Value) (an : Option Addr) (cdv ct : Value) (us its : List Value), us.length = ps.length → its.length = dvs.length →
      ∃ k, bindArgs (PySem.W.fnOf x qual params body scope (.ref T) kV doc pm an cdv ct) ⟨us, []⟩ = seqItems? (.ref T) >>= k ∧ k (some its.toArray) = pure (ps.zip (us ++ its.drop dvs.length))) : Binds K fd ps [] := by
  obtain ⟨ds, h1, h2⟩ := FunD.binds1 (ps := ps) F ps.length dvs.length hd (by omega) h
  rw [List.drop_length] at h1
  cases h1
  exact h2
variable {X : Cx}
theorem d_callD {x : Str} {p pos : Pos} {e : Expr} {es : List Expr} {k j n : Nat} {φ : List D → Sto → Res D} {fa : DA} {dd : List D} (c : Cld T X.prog X.w X.mg X.base x k n φ dd) (ha : PDa T X (e :: es) fa) (hr : Room j X.A) (hk : k ≤ j := by decide) (hn : (e :: es).length + dd.length = n := by rfl) (hg : Gl X x := by rfl) (hK : X.K = T.K := by rfl)
    (hdb : (x == ("__debug__" : Str)) = false := by decide) (he : starEach (e :: es) X.env = (false, eval e X.env) :: starEach es X.env := by rfl) (hpl : (backTo pos (starEach es X.env)).any (·.1) = false := by rfl) :
    PDe T X (.Call (.Name x p) (e :: es) [] pos) (dCall (fun ds s => φ (ds ++ dd) s) fa) := fun pn xe W tk => by
  obtain ⟨t1, p1, d1⟩ := ha pn xe W tk
  obtain ⟨f, fd, ps, ds0, dvs, h1, h2, h3, h4, h5, h6⟩ := c.ex
  rw [← hK] at h2 h3 h6
  refine ⟨_, pe_callSD (X := X.tr pn xe) h6 (hr.mono hk) hg h1 h2 h3 h4 (fun σ => passAt tk σ) p1 hdb he hpl, fun σ H P ι F δ s Q R E post => ?_⟩
  show t1 σ H _
  refine den_then d1 R E post fun ds vs H1 ι1 F1 s1 g R1 E1 r1 post1 => ?_
  have r5 := h5 F1 ι1
  exact ⟨by rw [List.length_append, r1.2, ← r5.len]; exact hn, P, ι1, F1, s1, ds ++ dd, R1, r1.1.app r5, post1⟩
end
end Mp
/-! # MpX -/
namespace Mp
open PySem PySem.Spec PyProof.Rows L2
/-! ## dicts: values that stay, and cells -/
def dcOf (s : Sto) : D → Option (List D × List D)
  | .dct ks xs => some (ks, xs)
  | .loc n => match s[n]? with
    | some (.dct ks xs) => some (ks, xs)
    | _ => none
  | _ => none
def eqK : D → D → Bool
  | .int a, .int b => a == b
  | .str a, .str b => a == b
  | _, _ => false
def keyD : D → Option Key
  | .int a => some (.inl a)
  | .str z => some (.inr (S z))
  | _ => none
/-- what stands at the key -/
def lkD (k : D) : List D → List D → Option D
  | c :: ks, x :: xs => if eqK c k = true then some x else lkD k ks xs
  | _, _ => none
/-- .. in its place, or at the end -/
def repD (k x : D) : List D → List D → List D
  | c :: ks, y :: ys => (if eqK c k = true then x else y) :: repD k x ks ys
  | _, _ => []
def setD (k x : D) (ks xs : List D) : List D := if (ks.any fun c => eqK c k) = true then repD k x ks xs else xs ++ [x]
def setK (k : D) (ks : List D) : List D := if (ks.any fun c => eqK c k) = true then ks else ks ++ [k]
section
variable {T : Tb}
theorem dc_of {P : Hp} {ι : List Addr} {F : Hp} {s : Sto} {H : Hp} {d : D} {v : V} {ks xs : List D} (R : RelH T P ι F s H) (r : Rp T F ι d v) (h : dcOf s d = some (ks, xs)) :
    ∃ a kvs, v = .ref a ∧ Rd H a (.dK kvs) ∧ ks = kvs.map (fun p => kD p.1) ∧ Rps T F ι xs (kvs.map (·.2)) := by
  unfold dcOf at h
  split at h
  · cases h
    unfold Rp at r
    obtain ⟨a, kvs, e, q, k, r⟩ := r
    exact ⟨a, kvs, e, rd_mono R.sub q, k, r⟩
  · unfold Rp at r
    obtain ⟨a, e1, rfl⟩ := r
    split at h
    · rename_i hs
      cases h
      obtain ⟨_, kvs, h1, h2, h3⟩ := R.cell _ _ _ hs e1
      exact ⟨a, kvs, rfl, .inl h1, h2, h3⟩
    · cases h
  · cases h
theorem key_of' {F : Hp} {ι : List Addr} {d : D} {v : V} {k : Key} (r : Rp T F ι d v) (h : keyD d = some k) : v = kV k := by
  unfold keyD at h
  split at h
  · cases h; unfold Rp at r; exact r
  · cases h; unfold Rp at r; exact r
  · cases h
theorem eqK_kD {k j : Key} {d : D} (h : keyD d = some k) : eqK (kD j) d = decide (j = k) := by
  unfold keyD at h
  split at h
  · cases h
    cases j with
    | inl b =>
      rename_i a
      show (b == a) = _
      by_cases e : b = a
      · simp [e]
      · simp [e]
    | inr x => simp [kD, eqK]
  · cases h
    rename_i z
    cases j with
    | inl b => simp [kD, eqK]
    | inr x =>
      show (x.cps.toList == z) = _
      by_cases e : x = S z
      · subst e
        simp [S]
      · have : ¬ x.cps.toList = z := fun q => e (by
          subst q
          cases x
          rfl)
        simp [e, this]
  · cases h
theorem lk_valV {k : Key} {d : D} (hk : keyD d = some k) {F : Hp} {ι : List Addr} : ∀ {kvs : List (Key × V)} {xs : List D}, Rps T F ι xs (kvs.map (·.2)) → (∃ x v, lkD d (kvs.map fun p => kD p.1) xs = some x ∧ valV kvs k = some v ∧ Rp T F ι x v) ∨ (lkD d (kvs.map fun p => kD p.1) xs = none ∧ valV kvs k = none)
  | [], xs, r => by
    right
    constructor
    · rfl
    · rfl
  | p :: kvs, xs, r => by
    rw [List.map_cons] at r
    cases xs with
    | nil => unfold Rps at r; cases r
    | cons x xs =>
      unfold Rps at r
      obtain ⟨v, us, e, r1, r2⟩ := r
      injection e with e1 e2
      subst e1 e2
      rw [List.map_cons]
      unfold lkD
      rw [eqK_kD hk]
      by_cases c : p.1 = k
      · rw [if_pos (by simpa using c), valV_pos c]
        exact .inl ⟨x, p.2, rfl, rfl, r1⟩
      · rw [if_neg (by simpa using c), valV_neg c]
        exact lk_valV hk r2
theorem kD_of {k : Key} {d : D} (hk : keyD d = some k) : d = kD k := by
  unfold keyD at hk
  split at hk
  · cases hk; rfl
  · cases hk; simp [kD, S]
  · cases hk
theorem rep_valV {k : Key} {d x : D} {u : V} (hk : keyD d = some k) {F : Hp} {ι : List Addr} (hu : Rp T F ι x u) : ∀ {kvs : List (Key × V)} {xs : List D}, Rps T F ι xs (kvs.map (·.2)) →
    Rps T F ι (repD d x (kvs.map fun p => kD p.1) xs) ((kvs.map fun kv => if kv.1 = k then (kv.1, u) else kv).map (·.2))
  | [], xs, r => by unfold repD; exact .nil
  | p :: kvs, xs, r => by
    rw [List.map_cons] at r
    cases xs with
    | nil => unfold Rps at r; cases r
    | cons y xs =>
      unfold Rps at r
      obtain ⟨v, us, e, r1, r2⟩ := r
      injection e with e1 e2
      subst e1 e2
      rw [List.map_cons, List.map_cons, List.map_cons]
      unfold repD
      rw [eqK_kD hk]
      have ih := rep_valV hk hu r2
      by_cases c : p.1 = k
      · rw [if_pos (by simpa using c), if_pos c]
        exact .cons hu ih
      · rw [if_neg (by simpa using c), if_neg c]
        exact .cons r1 ih
theorem put_valV {k : Key} {d x : D} {u : V} (hk : keyD d = some k) {F : Hp} {ι : List Addr} (hu : Rp T F ι x u) {kvs : List (Key × V)} {xs : List D} (r : Rps T F ι xs (kvs.map (·.2))) :
    setK d (kvs.map fun p => kD p.1) = (putK kvs k u).map (fun p => kD p.1) ∧ Rps T F ι (setD d x (kvs.map fun p => kD p.1) xs) ((putK kvs k u).map (·.2)) := by
  have q : ((kvs.map fun p => kD p.1).any fun c => eqK c d) = kvs.any fun kv => decide (kv.1 = k) := by
    rw [List.any_map]
    congr 1
    funext p
    exact eqK_kD hk
  unfold setK setD putK
  rw [q]
  split
  · refine ⟨?_, rep_valV hk hu r⟩
    rw [List.map_map]
    refine List.map_congr_left fun p _ => ?_
    simp only [Function.comp]
    split <;> rfl
  · refine ⟨by rw [List.map_append, kD_of hk]; rfl, ?_⟩
    rw [List.map_append]
    exact r.app (.cons hu .nil)
/-! ### d[k], k in d, d[k] = v, len(d), list(d), {} -/
def oDix : DOp := fun x y s => match dcOf s x, keyD y with
  | some (ks, xs), some _ => match lkD y ks xs with
    | some d => .ok d s
    | none => .stuck
  | _, _ => .stuck
def dDix (f g : DE) : DE := fun δ s => (f δ s).bind fun x s1 => (g δ s1).bind fun y s2 => oDix x y s2
def dDin (neg : Bool) (g f : DE) : DE := fun δ s => (g δ s).bind fun y s1 => (f δ s1).bind fun x s2 => match dcOf s2 x, keyD y with
  | some (ks, xs), some _ => .ok (.bl (neg != (lkD y ks xs).isSome)) s2
  | _, _ => .stuck
variable {X : Cx}
theorem d_dix {o i : Expr} {pos : Pos} {f g : DE} (ho : PDe T X o f) (hi : PDe T X i g) (hu : X.A.units + 1 < cLine) (hs : NoSl i := by intro _ _; rfl) : PDe T X (.Subscript o i pos) (dDix f g) := fun pn xe W tk => by
  obtain ⟨t1, p1, d1⟩ := ho pn xe W tk
  obtain ⟨t2, p2, d2⟩ := hi pn xe W tk
  refine ⟨_, pe_dget (X := X.tr pn xe) hu p1 p2 hs, fun σ H P ι F δ s Q R E post => ?_⟩
  show t1 σ H _
  refine den_then d1 R E post fun x v H1 ι1 F1 s1 g1 R1 E1 r1 post1 => ?_
  refine den_then d2 R1 E1 post1 fun y u H2 ι2 F2 s2 g2 R2 E2 r2 post2 => ?_
  unfold oDix at post2
  split at post2
  · rename_i ks xs k h1 h2
    obtain ⟨a, kvs, rfl, h3, h4, h5⟩ := dc_of R2 (r1.mono g2) h1
    subst h4
    rcases lk_valV h2 h5 with ⟨x', v', e1, e2, e3⟩ | ⟨e1, e2⟩
    · rw [e1] at post2
      exact ⟨a, v', rfl, .inl ⟨kvs, k, h3, key_of' r2 h2, e2.symm⟩, post2.here R2 e3⟩
    · rw [e1] at post2
      exact post2.elim
  · exact post2.elim
theorem den_din {W : WX} {neg : Bool} {t1 t2 : TE} {f g : DE} (d2 : DenG T (Rp T) W t2 g) (d1 : DenG T (Rp T) W t1 f) {σ : L2.St} {H P : Hp} {ι : List Addr} {F : Hp} {δ : Env} {s : Sto} {Q : VK} (R : RelH T P ι F s H) (E : REnv T F ι δ σ)
    (post : Post T P (Rp T) Q (fun c H' => W (.ref (T.ca c)) none σ H') F ι (dDin neg g f δ s)) : t2 σ H fun y H1 => t1 σ H1 fun x H2 => ∃ a o, x = .ref a ∧ DGet H2 a y o ∧ Q (.bl (neg != o.isSome)) H2 := by
  refine den_then d2 R E post fun y u H1 ι1 F1 s1 g1 R1 E1 r1 post1 => ?_
  refine den_then d1 R1 E1 post1 fun x v H2 ι2 F2 s2 g2 R2 E2 r2 post2 => ?_
  split at post2
  · rename_i ks xs k h1 h2
    obtain ⟨a, kvs, rfl, h3, h4, h5⟩ := dc_of R2 r2 h1
    subst h4
    rcases lk_valV h2 h5 with ⟨x', v', e1, e2, e3⟩ | ⟨e1, e2⟩
    · rw [e1] at post2
      exact ⟨a, some v', rfl, .inl ⟨kvs, k, h3, key_of' (r1.mono g2) h2, e2.symm⟩, post2.here R2 (by unfold Rp; rfl)⟩
    · rw [e1] at post2
      exact ⟨a, none, rfl, .inl ⟨kvs, k, h3, key_of' (r1.mono g2) h2, e2.symm⟩, post2.here R2 (by unfold Rp; rfl)⟩
  · exact post2.elim
theorem d_din {o i : Expr} {pos : Pos} {f g : DE} (hi : PDe T X i g) (ho : PDe T X o f) (hu : X.A.units + 1 < cLine) (hm : behindInMarks .In o = false := by rfl) : PDe T X (.Compare i [.In] [o] pos) (dDin false g f) := fun pn xe W tk => by
  obtain ⟨t1, p1, d1⟩ := ho pn xe W tk
  obtain ⟨t2, p2, d2⟩ := hi pn xe W tk
  refine ⟨_, pe_cmp (pc_din (X := X.tr pn xe) hu p2 p1) hm, fun σ H P ι F δ s Q R E post => ?_⟩
  have := den_din (neg := false) d2 d1 R E post
  simp only [Bool.false_bne] at this
  exact this
theorem d_dnotin {o i : Expr} {pos : Pos} {f g : DE} (hi : PDe T X i g) (ho : PDe T X o f) (hu : X.A.units + 1 < cLine) (hm : behindInMarks .NotIn o = false := by rfl) : PDe T X (.Compare i [.NotIn] [o] pos) (dDin true g f) := fun pn xe W tk => by
  obtain ⟨t1, p1, d1⟩ := ho pn xe W tk
  obtain ⟨t2, p2, d2⟩ := hi pn xe W tk
  refine ⟨_, pe_cmp (pc_dnotin (X := X.tr pn xe) hu p2 p1) hm, fun σ H P ι F δ s Q R E post => ?_⟩
  have := den_din (neg := true) d2 d1 R E post
  simp only [Bool.true_bne] at this
  exact this
/-- .. as a test -/
theorem t_din {o i : Expr} {pos : Pos} {f g : DE} (hi : PDe T X i g) (ho : PDe T X o f) (hu : X.A.units + 1 < cLine) (hm : behindInMarks .In o = false := by rfl) : PDt T X (.Compare i [.In] [o] pos) (tst (dDin false g f)) := fun pn xe W tk => by
  obtain ⟨t, p, d⟩ := d_din (pos := pos) hi ho hu hm pn xe W tk
  obtain ⟨t1, p1, d1⟩ := ho pn xe W tk
  obtain ⟨t2, p2, d2⟩ := hi pn xe W tk
  refine ⟨_, pt_cmp (pc_din (X := X.tr pn xe) hu p2 p1) hm, fun σ H P ι F δ s Q R E post => ?_⟩
  refine den_tst (t := tDIn t2 t1) (f := dDin false g f) (fun σ H P ι F δ s Q R E post => ?_) σ H P ι F δ s Q R E post
  have := den_din (neg := false) d2 d1 R E post
  simp only [Bool.false_bne] at this
  exact this
theorem t_dnotin {o i : Expr} {pos : Pos} {f g : DE} (hi : PDe T X i g) (ho : PDe T X o f) (hu : X.A.units + 1 < cLine) (hm : behindInMarks .NotIn o = false := by rfl) : PDt T X (.Compare i [.NotIn] [o] pos) (tst (dDin true g f)) := fun pn xe W tk => by
  obtain ⟨t1, p1, d1⟩ := ho pn xe W tk
  obtain ⟨t2, p2, d2⟩ := hi pn xe W tk
  refine ⟨_, pt_cmp (pc_dnotin (X := X.tr pn xe) hu p2 p1) hm, fun σ H P ι F δ s Q R E post => ?_⟩
  refine den_tst (t := tDNotIn t2 t1) (f := dDin true g f) (fun σ H P ι F δ s Q R E post => ?_) σ H P ι F δ s Q R E post
  have := den_din (neg := true) d2 d1 R E post
  simp only [Bool.true_bne] at this
  exact this
/-- d[k] = v, d a cell -/
def sDput (fv fo fi : DE) : DS := fun δ s => (fv δ s).out δ fun d s1 => (fo δ s1).out δ fun o s2 => (fi δ s2).out δ fun i s3 => match o, keyD i with
  | .loc n, some _ => match s3[n]? with
    | some (.dct ks xs) => if ks.length < 1000 then .nx δ (s3.set n (.dct (setK i ks) (setD i d ks xs))) else .stuck
    | _ => .stuck
  | _, _ => .stuck
theorem s_dput {o i e : Expr} {tpos pos : Pos} {fv fo fi : DE} (he : PDe T X e fv) (ho : PDe T X o fo) (hi : PDe T X i fi) (hu : X.A.units + 1 < cLine) (hs : swapsWith e (some (.Subscript o i tpos)) pos.line X.env = pure false := by rfl) :
    PDs T X (.Assign [.Subscript o i tpos] e pos) (sDput fv fo fi) := fun pn xe W tk _ => by
  obtain ⟨t1, p1, d1⟩ := he pn xe W tk
  obtain ⟨t2, p2, d2⟩ := ho pn xe W tk
  obtain ⟨t3, p3, d3⟩ := hi pn xe W tk
  refine ⟨_, ps_dput (X := X.tr pn xe) hu p2 p3 p1 hs, fun En σ H P ι F δ s R E post => ?_⟩
  show t1 σ H _
  refine dens_then d1 R E post fun x v H1 ι1 F1 s1 g1 R1 E1 r1 post1 => ?_
  refine dens_then d2 R1 E1 post1 fun y u H2 ι2 F2 s2 g2 R2 E2 r2 post2 => ?_
  refine dens_then d3 R2 E2 post2 fun z w H3 ι3 F3 s3 g3 R3 E3 r3 post3 => ?_
  split at post3
  · rename_i n k h2
    split at post3
    · rename_i ks xs hs3
      split at post3
      · rename_i hl
        have r2' := r2.mono g3
        unfold Rp at r2'
        obtain ⟨a, e1, rfl⟩ := r2'
        obtain ⟨h4, kvs, h5, h6, h7⟩ := R3.cell _ _ _ hs3 e1
        subst h6
        rw [List.length_map] at hl
        obtain ⟨q1, q2⟩ := put_valV h2 (r1.mono (g2.trans g3)) h7
        refine ⟨a, _, rfl, .inl ⟨kvs, k, h5, key_of' r3 h2, by rw [sizeLine_eq]; omega, rfl⟩, ?_⟩
        exact post3 σ _ ι3 F3 (Grow.refl _ _) (R3.setC hs3 rfl e1 ⟨h4, _, upd_same, q1, q2⟩) E3
      · exact post3.elim
    · exact post3.elim
  · exact post3.elim
/-- {}, a cell -/
def dDctC : DE := fun _ s => .ok (.loc s.length) (s ++ [.dct [] []])
theorem d_dctC {pos : Pos} : PDe T X (.Dict [] [] pos) dDctC := fun pn xe W tk => ⟨_, pe_dnewK, fun σ H P ι F δ s Q R E post p hp => post_loc post R hp ⟨R.freeF hp, [], upd_same, rfl, .nil⟩⟩
def rLenD : List V → Hp → VK → Prop := fun xs H Q => ∃ a kvs, xs = [V.ref a] ∧ Rd H a (.dK kvs) ∧ Q (.int kvs.length) H
theorem call_lenD : CallR X (.builtin "len") rLenD := by
  intro pins s σ H xs us Q I r h
  obtain ⟨a, kvs, rfl, e, q⟩ := h
  rw [Vals.ref1 r]
  exact d_len I e fun t s' I' => ⟨.int kvs.length, H, I', ⟨t, rfl⟩, q⟩
def bLenA : DB := fun ds s => match ds with
  | [x] => match dcOf s x with
    | some (ks, _) => .ok (.int ks.length) s
    | none => bLen [x] s
  | _ => .stuck
theorem db_lenA : DenB T (fun xs H Q => rLen T.K xs H Q ∨ rLenD xs H Q) bLenA := by
  intro ds vs H P ι F s Q E R r post
  unfold bLenA at post
  split at post
  · obtain ⟨v, rfl, h1⟩ := rps1 r
    split at post
    · rename_i ks xs h
      obtain ⟨a, kvs, rfl, h3, h4, h5⟩ := dc_of R h1 h
      refine .inr ⟨a, kvs, rfl, h3, ?_⟩
      subst h4
      rw [List.length_map] at post
      exact post.here R (by unfold Rp; rfl)
    · exact .inl (db_len _ _ _ _ _ _ _ _ _ R r post)
  · exact post.elim
theorem call_lenA : CallR X (.builtin "len") (fun xs H Q => rLen X.K xs H Q ∨ rLenD xs H Q) := CallR.or call_len call_lenD
def bListA : DB := fun ds s => match ds with
  | [x] => match dcOf s x with
    | some (ks, _) => .ok (.lst ks) s
    | none => bList [x] s
  | _ => .stuck
abbrev rListD : List V → Hp → VK → Prop := fun xs H Q => ∃ (a : Addr) (kvs : List (Key × V)), xs = [.ref a] ∧ Rd H a (.dK kvs) ∧ ∀ p, H p = none → Q (.ref p) (upd H p (.lst (kvs.map fun kv => kV kv.1)))
theorem rps_keys {F : Hp} {ι : List Addr} : ∀ kvs : List (Key × V), Rps T F ι (kvs.map fun p => kD p.1) (kvs.map fun p => kV p.1)
  | [] => .nil
  | p :: kvs => by
    rw [List.map_cons, List.map_cons]
    refine .cons ?_ (rps_keys kvs)
    cases p.1 with
    | inl i => unfold kD Rp; rfl
    | inr x =>
      unfold kD Rp
      show V.str x = _
      congr 1
theorem db_listA : DenB T (fun xs H Q => rListOf T.K xs H Q ∨ rListD xs H Q) bListA := by
  intro ds vs H P ι F s Q E R r post
  unfold bListA at post
  split at post
  · obtain ⟨v, rfl, h1⟩ := rps1 r
    split at post
    · rename_i ks xs h
      obtain ⟨a, kvs, rfl, h3, h4, h5⟩ := dc_of R h1 h
      refine .inr ⟨a, kvs, rfl, h3, fun p hp => post.new R hp fun g => ?_⟩
      unfold Rp
      subst h4
      exact ⟨p, _, rfl, upd_same, rps_keys kvs⟩
    · exact .inl (db_list _ _ _ _ _ _ _ _ _ R r post)
  · exact post.elim
theorem call_listA (hc : X.calm = true) : CallR X (.type "list") (fun xs H Q => rListOf X.K xs H Q ∨ rListD xs H Q) := CallR.or call_list_of (call_listD hc)
end
end Mp
/-! # MpY -/
namespace Mp
open PySem PySem.Spec PyProof.Rows L2
theorem hu_of {n : Nat} (h : n + 64 < cLine) : n + 1 < cLine := by omega
section
variable {T : Tb} {X : Cx}
/-! ## x += e, whole numbers -/
def sAug (i : Nat) (g : Int → Int → Int) (f : DE) : DS := fun δ s => match δ[i]? with
  | some (some (.int a)) => (f δ s).out δ fun x s1 => match x with
    | .int b => .nx (δ.set i (some (.int (g a b)))) s1
    | _ => .stuck
  | _ => .stuck
theorem s_augAdd {x : Str} {e : Expr} {pos pos' : Pos} {f : DE} (i : Nat) (hN : X.N.Nodup) (he : PDe T X e f) (hi : X.N[i]? = some x := by rfl) (hx : Loc X.env.scope x := by first | exact Or.inl rfl | exact Or.inr rfl)
    (hf : X.fn x = true ∨ X.env.scope.names.lookup x = some .local := by first | exact Or.inr rfl | exact Or.inl rfl) : PDs T X (.AugAssign (.Name x pos') .Add e pos) (sAug i (fun a b => a + b) f) := fun pn xe W tk _ => by
  obtain ⟨t1, p1, d1⟩ := he pn xe W tk
  refine ⟨_, ps_aug (X := X.tr pn xe) (i := i) hN hi hx p1 ip_add hf, fun En σ H P ι F δ s R E post => ?_⟩
  unfold sAug at post
  split at post
  · rename_i a ha
    obtain ⟨v, e1, e2⟩ := E.at_ i _ ha
    unfold Rp at e2
    subst e2
    refine ⟨_, e1, ?_⟩
    refine dens_then d1 R E post fun y u H1 ι1 F1 s1 g1 R1 E1 r1 post1 => ?_
    split at post1
    · unfold Rp at r1
      refine ⟨_, _, rfl, r1, ?_⟩
      exact post1 _ H1 ι1 F1 (Grow.refl _ _) R1 (E1.set (by unfold Rp; rfl) i)
    · exact post1.elim
  · exact post.elim
/-! ## xs[::-1] -/
def dRev (f : DE) : DE := fun δ s => (f δ s).bind fun x s1 => match lqOf s1 x with
  | some xs => .ok (.lst xs.reverse) s1
  | none => .stuck
theorem d_rev {e : Expr} {k : Nat} {p1 p2 p3 pos : Pos} {f : DE} (he : PDe T X e f) (hK : X.K = T.K := by rfl) : PDe T X (.Subscript e (.Slice none none (some (.UnaryOp .USub (.Constant (.int 1) k p1) p2)) p3) pos) (dRev f) := fun pn xe W tk => by
  obtain ⟨t1, p1', d1⟩ := he pn xe W tk
  have hK' : (X.tr pn xe).K = T.K := hK
  refine ⟨_, pe_revL (X := X.tr pn xe) p1', fun σ H P ι F δ s Q R E post => ?_⟩
  rw [hK']
  show t1 σ H _
  refine den_then d1 R E post fun x v H1 ι1 F1 s1 g1 R1 E1 r1 post1 => ?_
  split at post1
  · rename_i xs h
    obtain ⟨a, us, rfl, h2, h3⟩ := lq_of R1 r1 h
    refine ⟨a, us, rfl, h2, fun p hp => post1.new R1 hp fun g => ?_⟩
    unfold Rp
    exact ⟨p, _, rfl, upd_same, h3.rev.mono g⟩
  · exact post1.elim
/-! ## xs[i:j], as a cell -/
def dSlC (f : DE) (lo hi : DOI) : DE := fun δ s => (f δ s).bind fun x s1 => (lo δ s1).bind fun l s2 => (hi δ s2).bind fun u s3 => match lqOf s3 x with
  | some xs => .ok (.loc s3.length) (s3 ++ [.lst (cutL xs l u)])
  | none => .stuck
theorem d_slC {e : Expr} {lo hi : Option Expr} {p2 pos : Pos} {f : DE} {g h : DOI} (he : PDe T X e f) (hl : PDo T X lo g) (hh : PDo T X hi h) (hK : X.K = T.K := by rfl) : PDe T X (.Subscript e (.Slice lo hi none p2) pos) (dSlC f g h) := fun pn xe W tk => by
  obtain ⟨t1, p1, d1⟩ := he pn xe W tk
  obtain ⟨t2, p2, d2⟩ := hl pn xe W tk
  obtain ⟨t3, p3, d3⟩ := hh pn xe W tk
  refine ⟨_, pe_slice (X := X.tr pn xe) sl_list p1 p2 p3, fun σ H P ι F δ s Q R E post => ?_⟩
  show t1 σ H _
  refine den_then d1 R E post fun x y H1 ι1 F1 s1 g1 R1 E1 r1 post1 => ?_
  refine den_then d2 R1 E1 post1 fun l l' H2 ι2 F2 s2 g2 R2 E2 r2 post2 => ?_
  refine den_then d3 R2 E2 post2 fun u u' H3 ι3 F3 s3 g3 R3 E3 r3 post3 => ?_
  cases r2
  cases r3
  have rx := (r1.mono g2).mono g3
  have hK' : (X.tr pn xe).K = T.K := hK
  rw [hK']
  split at post3
  · rename_i xs h
    obtain ⟨a, vs, rfl, h2, h3⟩ := lq_of R3 rx h
    refine ⟨a, vs, rfl, h2, fun p hp => post_loc post3 R3 hp ?_⟩
    exact ⟨R3.freeF hp, _, upd_same, (cut_ok h3 l u).mono (grow_app _ _ _)⟩
  · exact post3.elim
end
end Mp
/-! # MpZ -/
namespace Mp
open PySem PySem.Spec PyProof.Rows L2
section
variable {T : Tb} {X : Cx}
/-! ## enumerate(xs) -/
def enD : Nat → List D → List D
  | _, [] => []
  | i, x :: xs => .tup [.int (i : Int), x] :: enD (i + 1) xs
theorem enD_len : ∀ {i : Nat} {xs : List D}, (enD i xs).length = xs.length
  | _, [] => rfl
  | i, x :: xs => by simp [enD, enD_len (i := i + 1) (xs := xs)]
theorem enD_at : ∀ {xs : List D} {i j : Nat} {x : D}, xs[j]? = some x → (enD i xs)[j]? = some (.tup [.int ((i + j : Nat) : Int), x])
  | [], _, _, _, h => by simp at h
  | y :: ys, i, 0, x, h => by
    simp at h
    subst h
    rfl
  | y :: ys, i, j + 1, x, h => by
    have e := enD_at (i := i + 1) (show ys[j]? = some x by simpa using h)
    show (enD (i + 1) ys)[j]? = _
    rw [e, show i + 1 + j = i + (j + 1) by omega]
theorem walks_enum {F : Hp} {ι : List Addr} {a : Addr} {vs : List V} {ds : List D} (h : SqL T.K F a vs) (r : Rps T F ι ds vs) : Walks T (Ite T.K a) (enD 0 ds) F ι := by
  unfold Walks
  rw [enD_len, r.len]
  exact {
    goes := fun i H hi hF => by
      obtain ⟨x, hx⟩ := get_lt hi
      exact ⟨vs, x, sql_mono hF h, hx⟩
    stops := fun H hF => ⟨vs, sql_mono hF h, Nat.le_refl _⟩
    yields := fun i H x H' hi hF y => by
      obtain ⟨p, z, e1, e2, e3, e4⟩ := y
      have e5 := e4 vs (sql_mono hF h)
      have hi1 : i < ds.length := by rw [r.len]; exact hi
      obtain ⟨d, hd⟩ := get_lt hi1
      obtain ⟨v', h1, h2⟩ := r.get hd
      rw [e5] at h1
      cases h1
      refine ⟨_, enD_at (i := 0) hd, .inr ⟨p, [.int ((i : Nat) : Int), z], _, e1, e2, e3, rfl, .cons ?_ (.cons h2 .nil)⟩⟩
      unfold Rp
      rw [Nat.zero_add] }
def itEnum (f : DA) : DIt := fun δ s => (f δ s).bind fun xs s1 => match xs with
  | [.lst a] => .ok (enD 0 a) s1
  | _ => .stuck
theorem i_enum {e : Expr} {p pos tpos : Pos} {elts : List Expr} {kk : Nat} {f : DA} (hm : X.mg "enumerate" = none) (ha : PDa T X [e] f) (hg : Gl X "enumerate" := by rfl)
    (hs : starEach [e] X.env = [(false, eval e X.env)] := by rfl) (hK : X.K = T.K := by rfl) :
    PDi T X (.Tuple elts kk tpos) (.Call (.Name "enumerate" p) [e] [] pos) (itEnum f) := fun pn xe W tk => by
  obtain ⟨t1, p1, d1⟩ := ha pn xe W tk
  have hK' : (X.tr pn xe).K = T.K := hK
  refine ⟨_, pi_enum (X := X.tr pn xe) hg hm p1 hs, fun σ H P ι F δ s Q R E post => ?_⟩
  rw [hK']
  show t1 σ H _
  refine den_then d1 R E post fun x y H1 ι1 F1 s1 g R1 E1 r1 post1 => ?_
  split at post1
  · obtain ⟨v, rfl, h1⟩ := rps1 r1.1
    unfold Rp at h1
    obtain ⟨a, vs, rfl, h3, h4⟩ := h1
    exact ⟨a, vs, rfl, SqL.of (R1.sub _ _ h3), post1.here R1 (walks_enum (SqL.of h3) h4)⟩
  · exact post1.elim
end
end Mp
namespace Mp
open PySem PySem.Spec PyProof.Rows L2
section
variable {δ : Env} {s : Sto}
@[simp] theorem itEnum_eq {f : DA} : itEnum f δ s = (f δ s).bind fun xs s1 => match xs with
  | [.lst a] => .ok (enD 0 a) s1
  | _ => .stuck := rfl
@[simp] theorem dcOf_dct {ks xs : List D} : dcOf s (.dct ks xs) = some (ks, xs) := rfl
@[simp] theorem dcOf_loc {n : Nat} : dcOf s (.loc n) = match s[n]? with
    | some (.dct ks xs) => some (ks, xs)
    | _ => none := rfl
@[simp] theorem keyD_int {a : Int} : keyD (.int a) = some (.inl a) := rfl
@[simp] theorem keyD_str {z : List Nat} : keyD (.str z) = some (.inr (S z)) := rfl
@[simp] theorem dDix_eq {f g : DE} : dDix f g δ s = (f δ s).bind fun x s1 => (g δ s1).bind fun y s2 => oDix x y s2 := rfl
@[simp] theorem dDin_eq {neg : Bool} {f g : DE} : dDin neg g f δ s = (g δ s).bind fun y s1 => (f δ s1).bind fun x s2 => match dcOf s2 x, keyD y with
  | some (ks, xs), some _ => .ok (.bl (neg != (lkD y ks xs).isSome)) s2
  | _, _ => .stuck := rfl
@[simp] theorem sDput_eq {fv fo fi : DE} : sDput fv fo fi δ s = (fv δ s).out δ fun d s1 => (fo δ s1).out δ fun o s2 => (fi δ s2).out δ fun i s3 => match o, keyD i with
  | .loc n, some _ => match s3[n]? with
    | some (.dct ks xs) => if ks.length < 1000 then .nx δ (s3.set n (.dct (setK i ks) (setD i d ks xs))) else .stuck
    | _ => .stuck
  | _, _ => .stuck := rfl
@[simp] theorem bLenA_loc {n : Nat} {ks xs : List D} (h : s[n]? = some (.dct ks xs)) : bLenA [.loc n] s = .ok (.int ks.length) s := by
  unfold bLenA
  simp [h]
@[simp] theorem bListA_loc {n : Nat} {ks xs : List D} (h : s[n]? = some (.dct ks xs)) : bListA [.loc n] s = .ok (.lst ks) s := by
  unfold bListA
  simp [h]
@[simp] theorem bTuple_lst {xs : List D} : bTuple [.lst xs] s = .ok (.tup xs) s := rfl
@[simp] theorem bTuple_tup {xs : List D} : bTuple [.tup xs] s = .ok (.tup xs) s := rfl
@[simp] theorem dDctC_eq : dDctC δ s = .ok (.loc s.length) (s ++ [.dct [] []]) := rfl
@[simp] theorem dRev_eq {f : DE} : dRev f δ s = (f δ s).bind fun x s1 => match lqOf s1 x with
  | some xs => .ok (.lst xs.reverse) s1
  | none => .stuck := rfl
@[simp] theorem sAug_eq {i : Nat} {g : Int → Int → Int} {f : DE} : sAug i g f δ s = match δ[i]? with
  | some (some (.int a)) => (f δ s).out δ fun x s1 => match x with
    | .int b => .nx (δ.set i (some (.int (g a b)))) s1
    | _ => .stuck
  | _ => .stuck := rfl
@[simp] theorem dSlC_eq {f : DE} {lo hi : DOI} : dSlC f lo hi δ s = (f δ s).bind fun x s1 => (lo δ s1).bind fun l s2 => (hi δ s2).bind fun u s3 => match lqOf s3 x with
  | some xs => .ok (.loc s3.length) (s3 ++ [.lst (cutL xs l u)])
  | none => .stuck := rfl
@[simp] theorem lkD_nil {k : D} : lkD k [] [] = none := rfl
theorem lkD_cons {k c x : D} {ks xs : List D} : lkD k (c :: ks) (x :: xs) = if eqK c k = true then some x else lkD k ks xs := rfl
@[simp] theorem eqK_str {a b : List Nat} : eqK (.str a) (.str b) = (a == b) := rfl
end
end Mp
/-! # MpO -/
namespace Mp
open PySem PySem.Spec PyProof.Rows L2
/-! ## x or y, x and y by truth -/
def truD (s : Sto) : D → Option Bool
  | .non => some false
  | .bl b => some b
  | .int i => some (i != 0)
  | .tup xs => some (!xs.isEmpty)
  | x => match lqOf s x with
    | some xs => some (!xs.isEmpty)
    | none => none
section
variable {T : Tb} {X : Cx}
variable {P F : Hp} {ι : List Addr} {s : Sto} {H : Hp}
theorem emp_of {F : Hp} {ι : List Addr} {ds : List D} {vs : List V} (r : Rps T F ι ds vs) : vs.isEmpty = ds.isEmpty := by
  have h := r.len
  cases ds <;> cases vs <;> simp_all
theorem tru_of (R : RelH T P ι F s H) {d : D} {v : V} {k : Bool} (r : Rp T F ι d v) (e : truD s d = some k) : TruV T.K v H k := by
  have seq : ∀ xs, lqOf s d = some xs → k = !xs.isEmpty → TruV T.K v H k := fun xs h q => by
    obtain ⟨a, vs, rfl, h2, h3⟩ := lq_of R r h
    exact .inl ⟨vs, h2, by rw [emp_of h3, q]⟩
  cases d with
  | non =>
    unfold Rp at r
    cases e
    subst r
    rfl
  | bl b =>
    unfold Rp at r
    cases e
    subst r
    rfl
  | int i =>
    unfold Rp at r
    cases e
    subst r
    rfl
  | tup xs =>
    obtain ⟨a, vs, rfl, h1, h2, h3⟩ := tp_of R r
    cases e
    exact .inr (.inl ⟨vs, SqT.of h1, by rw [emp_of h3]⟩)
  | _ =>
    simp only [truD] at e
    split at e
    · rename_i xs h
      cases e
      exact seq _ h rfl
    · cases e
def dOrT (f g : DE) : DE := fun δ s => (f δ s).bind fun x s1 => match truD s1 x with
  | some true => .ok x s1
  | some false => g δ s1
  | none => .stuck
theorem d_orT {a b : Expr} {rest : List Expr} {pos : Pos} {fa fb : DE} (ha : PDe T X a fa) (hb : PDe T X (.BoolOp .Or (b :: rest) pos) fb) (hK : X.K = T.K := by rfl) : PDe T X (.BoolOp .Or (a :: b :: rest) pos) (dOrT fa fb) := fun pn xe W tk => by
  obtain ⟨t1, p1, d1⟩ := ha pn xe W tk
  obtain ⟨t2, p2, d2⟩ := hb pn xe W tk
  have hK' : (X.tr pn xe).K = T.K := hK
  refine ⟨_, pe_orT (X := X.tr pn xe) p1 p2, fun σ H P ι F δ s Q R E post => ?_⟩
  rw [hK']
  show t1 σ H _
  refine den_then d1 R E post fun x y H1 ι1 F1 s1 g1 R1 E1 r1 post1 => ?_
  cases h : truD s1 x with
  | none =>
    rw [h] at post1
    exact post1.elim
  | some b =>
    rw [h] at post1
    refine ⟨b, tru_of R1 r1 h, ?_⟩
    cases b with
    | true =>
      rw [if_pos rfl]
      exact post1.here R1 r1
    | false =>
      rw [if_neg Bool.false_ne_true]
      exact d2 _ _ _ _ _ _ _ _ R1 E1 post1
/-- a value as a test, by its truth -/
def tTru (f : DE) : DT := fun δ s => (f δ s).bind fun x s1 => match truD s1 x with
  | some b => .ok b s1
  | none => .stuck
theorem t_tru {e : Expr} {f : DE} (h : PDe T X e f) (he : ∀ whole, isTrue e X.env whole = (do let v ← whole; standAt e.pos; holding [v] (truthy v)) := by intro _; rfl) (hK : X.K = T.K := by rfl) : PDt T X e (tTru f) := fun pn xe W tk => by
  obtain ⟨t1, p1, d1⟩ := h pn xe W tk
  have hK' : (X.tr pn xe).K = T.K := hK
  refine ⟨_, pt_truth (X := X.tr pn xe) p1 he, fun σ H P ι F δ s Q R E post => ?_⟩
  rw [hK']
  show t1 σ H _
  refine den_then d1 R E post fun x y H1 ι1 F1 s1 g1 R1 E1 r1 post1 => ?_
  cases h : truD s1 x with
  | none =>
    rw [h] at post1
    exact post1.elim
  | some b =>
    rw [h] at post1
    exact ⟨b, tru_of R1 r1 h, post1.here R1 rfl⟩
end
section
variable {δ : Env} {s : Sto}
@[simp] theorem dOrT_eq {f g : DE} : dOrT f g δ s = (f δ s).bind fun x s1 => match truD s1 x with
  | some true => .ok x s1
  | some false => g δ s1
  | none => .stuck := rfl
@[simp] theorem tTru_eq {f : DE} : tTru f δ s = (f δ s).bind fun x s1 => match truD s1 x with
  | some b => .ok b s1
  | none => .stuck := rfl
@[simp] theorem truD_non : truD s .non = some false := rfl
@[simp] theorem truD_bl {b : Bool} : truD s (.bl b) = some b := rfl
@[simp] theorem truD_int {i : Int} : truD s (.int i) = some (i != 0) := rfl
@[simp] theorem truD_tup {xs : List D} : truD s (.tup xs) = some (!xs.isEmpty) := rfl
@[simp] theorem truD_lst {xs : List D} : truD s (.lst xs) = some (!xs.isEmpty) := rfl
end
end Mp
/-! # the defs -/
namespace Rb
open PySem PySem.Spec L2 Mp
def top (i : Nat) : Stmt := PySem.Challenge.pw_roadbook_k17_zones_and_tickets.main.body.getD i (.Pass ⟨0, 0, 0, 0⟩)
def inClass (st : Stmt) (j : Nat) : Stmt := match st with
  | .ClassDef _ _ _ body .. => body.getD j (.Pass ⟨0, 0, 0, 0⟩)
  | _ => .Pass ⟨0, 0, 0, 0⟩
abbrev s_is_among : Stmt := top 21
abbrev s_zone_bits : Stmt := top 23
abbrev s_is_name : Stmt := top 38
abbrev s_Net_need_trip : Stmt := inClass (top 45) 3
abbrev s_Net_calls : Stmt := inClass (top 45) 19
abbrev s_Net_need_stop : Stmt := inClass (top 45) 1
abbrev s_Net_zone : Stmt := inClass (top 45) 14
abbrev s_zones_of : Stmt := top 24
abbrev s_Net_ticket : Stmt := inClass (top 45) 17
abbrev s_fits : Stmt := top 25
abbrev s_need_fresh : Stmt := top 39
abbrev s_need_among : Stmt := top 40
abbrev s_need_room : Stmt := top 41
abbrev s_are_zones : Stmt := top 42
abbrev s_are_calls : Stmt := top 43
abbrev s_rises : Stmt := top 44
abbrev s_Net___init__ : Stmt := inClass (top 45) 0
abbrev s_Net_need_rule : Stmt := inClass (top 45) 2
abbrev s_Net_add_stop : Stmt := inClass (top 45) 4
abbrev s_Net_add_rule : Stmt := inClass (top 45) 6
abbrev s_Net_add_ticket : Stmt := inClass (top 45) 7
abbrev s_Net_add_trip : Stmt := inClass (top 45) 8
abbrev s__law_draw : Stmt := top 47
abbrev s__law_whole : Stmt := top 48
abbrev s__law_word : Stmt := top 49
abbrev s__law_names : Stmt := top 50
abbrev s__law_calls : Stmt := top 51
abbrev s__law_zones : Stmt := top 52
abbrev s__law_tickets : Stmt := top 53
abbrev s__law_bits : Stmt := top 54
abbrev s__law_net : Stmt := top 55
abbrev s__law_refused : Stmt := top 56
abbrev s__law_rides_right : Stmt := top 57
abbrev s_law : Stmt := top 58
def caT (K : PySem.W.Frag) : Nat → Addr
  | 0 => He.ga K "RoadError"
  | 1 => He.ga K "BadClock"
  | 2 => He.ga K "BadRule"
  | 3 => He.ga K "TooMany"
  | 4 => He.ga K "BadName"
  | 5 => He.ga K "Twice"
  | 6 => He.ga K "NoStop"
  | 7 => He.ga K "NoRule"
  | 8 => He.ga K "NoTicket"
  | 9 => He.ga K "NoTrip"
  | 10 => He.ga K "BadNumber"
  | 11 => He.ga K "BadCalls"
  | 12 => He.ga K "NoRun"
  | 13 => He.ga K "TooLate"
  | 14 => He.ga K "NoTraveller"
  | 15 => He.ga K "BadLine"
  | 16 => He.ga K "BadRow"
  | 17 => He.ga K "NoPlan"
  | 18 => He.ga K "Rule"
  | 19 => He.ga K "Net"
  | _ => 0
def fmT : Nat → Str
  | 0 => "spots"
  | 1 => "paths"
  | 2 => "habits"
  | 3 => "passes"
  | 4 => "lines"
  | _ => ""
abbrev tb (K : PySem.W.Frag) : Tb := { K := K, ca := caT K, fm := fmT }
abbrev parT : List Nat := [0, 0, 0, 0, 0, 0, 0, 0, 0, 0, 0, 0, 0, 0, 0, 0, 0, 0]
abbrev n1T : Nat := 16
abbrev parA : List Nat := [0, 0, 0, 0, 0, 0, 0, 0, 0, 0, 0, 0, 0, 0, 0, 0, 0, 0, 18, 19]
abbrev csT : List Nat := [18, 19]
theorem nm_add_rule : ∀ i, i < 5 → fmT i ≠ "add_rule" := by decide +kernel
theorem nm_add_stop : ∀ i, i < 5 → fmT i ≠ "add_stop" := by decide +kernel
theorem nm_add_ticket : ∀ i, i < 5 → fmT i ≠ "add_ticket" := by decide +kernel
theorem nm_add_trip : ∀ i, i < 5 → fmT i ≠ "add_trip" := by decide +kernel
theorem nm_calls : ∀ i, i < 5 → fmT i ≠ "calls" := by decide +kernel
theorem nm_need_rule : ∀ i, i < 5 → fmT i ≠ "need_rule" := by decide +kernel
theorem nm_need_stop : ∀ i, i < 5 → fmT i ≠ "need_stop" := by decide +kernel
theorem nm_need_trip : ∀ i, i < 5 → fmT i ≠ "need_trip" := by decide +kernel
theorem nm_ticket : ∀ i, i < 5 → fmT i ≠ "ticket" := by decide +kernel
theorem nm_zone : ∀ i, i < 5 → fmT i ≠ "zone" := by decide +kernel
structure Txt (K : PySem.W.Frag) (mg : Str → Option Value) : Prop where
  f_ValueError : mg "ValueError" = none
  f_all : mg "all" = none
  f_bool : mg "bool" = none
  f_enumerate : mg "enumerate" = none
  f_int : mg "int" = none
  f_isinstance : mg "isinstance" = none
  f_len : mg "len" = none
  f_list : mg "list" = none
  f_range : mg "range" = none
  f_set : mg "set" = none
  f_sorted : mg "sorted" = none
  f_str : mg "str" = none
  f_sum : mg "sum" = none
  f_tuple : mg "tuple" = none
  f_zip : mg "zip" = none
  k_LETTERS : ∃ u, mg "LETTERS" = some u ∧ RelV (.str (S [97, 98, 99, 100, 101, 102, 103, 104, 105, 106, 107, 108, 109, 110, 111, 112, 113, 114, 115, 116, 117, 118, 119, 120, 121, 122])) u
  k_MOST_LETTERS : ∃ u, mg "MOST_LETTERS" = some u ∧ RelV (.int 8) u
  k_MOST_MINUTE : ∃ u, mg "MOST_MINUTE" = some u ∧ RelV (.int 2879) u
  k_MOST_STOPS : ∃ u, mg "MOST_STOPS" = some u ∧ RelV (.int 8) u
  k_MOST_RULES : ∃ u, mg "MOST_RULES" = some u ∧ RelV (.int 6) u
  k_MOST_TICKETS : ∃ u, mg "MOST_TICKETS" = some u ∧ RelV (.int 3) u
  k_MOST_TRIPS : ∃ u, mg "MOST_TRIPS" = some u ∧ RelV (.int 10) u
  k_MOST_CALLS : ∃ u, mg "MOST_CALLS" = some u ∧ RelV (.int 6) u
  k_MOST_ZONE : ∃ u, mg "MOST_ZONE" = some u ∧ RelV (.int 6) u
  c_RoadError : mg "RoadError" = some (.ref (caT K 0))
  c_BadClock : mg "BadClock" = some (.ref (caT K 1))
  c_BadRule : mg "BadRule" = some (.ref (caT K 2))
  c_TooMany : mg "TooMany" = some (.ref (caT K 3))
  c_BadName : mg "BadName" = some (.ref (caT K 4))
  c_Twice : mg "Twice" = some (.ref (caT K 5))
  c_NoStop : mg "NoStop" = some (.ref (caT K 6))
  c_NoRule : mg "NoRule" = some (.ref (caT K 7))
  c_NoTicket : mg "NoTicket" = some (.ref (caT K 8))
  c_NoTrip : mg "NoTrip" = some (.ref (caT K 9))
  c_BadNumber : mg "BadNumber" = some (.ref (caT K 10))
  c_BadCalls : mg "BadCalls" = some (.ref (caT K 11))
  c_NoRun : mg "NoRun" = some (.ref (caT K 12))
  c_TooLate : mg "TooLate" = some (.ref (caT K 13))
  c_NoTraveller : mg "NoTraveller" = some (.ref (caT K 14))
  c_BadLine : mg "BadLine" = some (.ref (caT K 15))
  c_BadRow : mg "BadRow" = some (.ref (caT K 16))
  c_NoPlan : mg "NoPlan" = some (.ref (caT K 17))
  c_Rule : mg "Rule" = some (.ref (caT K 18))
  c_Net : mg "Net" = some (.ref (caT K 19))
  xt : ExT K (caT K) parT n1T
  ob : ObT K (caT K) fmT csT 5
  ki : KiT K (caT K) parA csT
  m0_Rule : Mk0 K (caT K 18)
/-! ### is_among -/
abbrev N_is_among : List Str := ["thing", "least", "most"]
def g_is_among : DS :=
  (sRet (dAndV (dBi (bIsO parT parA csT) (aCons (dVar 0) (aCons (dC (.ty "int")) aNil))) (dAndV (dNotV (dBi (bIsO parT parA csT) (aCons (dVar 0) (aCons (dC (.ty "bool")) aNil)))) (dChain oLe oLe (dVar 1) (dVar 0) (dVar 2)))))
def f_is_among : List D → Sto → Res D := mkF 3 3 g_is_among
theorem sc_is_among : FnScope N_is_among ["thing", "least", "most"] (defScope s_is_among) := ⟨rfl, rfl, rfl, by decide +kernel, rfl, by decide +kernel, by decide +kernel⟩
section
variable {P : Program} {w : World} {K : PySem.W.Frag} {mg : Str → Option Value} {base : Heap}
theorem b_is_among (Tx : Txt K mg)  {f : Addr} (cdv : Value) (A : Around) (outer : List PySem.Env) (s : Shared) (H : Hp) (E : XK) (hr : Room 0 (A.deeper (PyProof.Rows.envOfC "is_among" (defScope s_is_among) s.heap.objs.size f cdv))) : PDb (tb K) (cxOf (L2.CX P w) P w (tb K).K mg base N_is_among "is_among" (defScope s_is_among) f cdv A outer s H E) (defBody s_is_among) (g_is_among) :=
  (b_one (s_ret (d_and (d_callB (fun _ _ => call_isA) (db_isO Tx.xt Tx.ob Tx.ki) Tx.f_isinstance (by decide +kernel) (a_cons (d_var 0) (a_cons (d_ty "int" Tx.f_int (by decide +kernel)) a_nil))) (d_and (d_not (d_callB (fun _ _ => call_isA) (db_isO Tx.xt Tx.ob Tx.ki) Tx.f_isinstance (by decide +kernel) (a_cons (d_var 0) (a_cons (d_ty "bool" Tx.f_bool (by decide +kernel)) a_nil)))) (d_one (d_chain (fun _ _ => op_le) (fun _ _ => op_le) do_cmp do_cmp (d_var 1) (d_var 0) (d_var 2)))))))
end
/-! ### zone_bits -/
abbrev N_zone_bits : List Str := ["zones", "bits", "zone"]
def g_zone_bits_b1 : DS :=
  (sSet 1 (dOp oOr (dVar 1) (dOp oShl (dC (.int 1)) (dOp oSub (dVar 2) (dC (.int 1))))))
def g_zone_bits : DS :=
  (sSeq (sSet 1 (dC (.int 0)))
    (sSeq (sFor (itAny (dVar 0)) (tgN 2) g_zone_bits_b1)
    (sRet (dVar 1))))
def f_zone_bits : List D → Sto → Res D := mkF 3 1 g_zone_bits
theorem sc_zone_bits : FnScope N_zone_bits ["zones"] (defScope s_zone_bits) := ⟨rfl, rfl, rfl, by decide +kernel, rfl, by decide +kernel, by decide +kernel⟩
section
variable {P : Program} {w : World} {K : PySem.W.Frag} {mg : Str → Option Value} {base : Heap}
theorem b_zone_bits (Tx : Txt K mg)  {f : Addr} (cdv : Value) (A : Around) (outer : List PySem.Env) (s : Shared) (H : Hp) (E : XK) (hr : Room 0 (A.deeper (PyProof.Rows.envOfC "zone_bits" (defScope s_zone_bits) s.heap.objs.size f cdv))) : PDb (tb K) (cxOf (L2.CX P w) P w (tb K).K mg base N_zone_bits "zone_bits" (defScope s_zone_bits) f cdv A outer s H E) (defBody s_zone_bits) (g_zone_bits) :=
  (b_cons (s_set 1 sc_zone_bits.nd d_int)
    (b_cons (s_for (i_any (d_var 0)) (g_name 2 sc_zone_bits.nd) (b_one (s_set 1 sc_zone_bits.nd (d_op (fun _ _ => op_or) do_or (d_var 1) (d_op (fun _ _ => op_shl) do_shl d_int (d_op (fun _ _ => op_sub) do_sub (d_var 2) d_int))))))
    (b_one (s_ret (d_var 1)))))
end
/-! ### is_name -/
abbrev N_is_name : List Str := ["thing", "sign"]
def g_is_name : DS :=
  (sSeq (sIf (tOrD (tNotD (tst (dBi (bIsO parT parA csT) (aCons (dVar 0) (aCons (dC (.ty "str")) aNil))))) (tNotD (tst (dChain oLe oLe (dC (.int 1)) (dBi bLen (aCons (dVar 0) aNil)) (dC (.int 8)))))) (sRet (dC (.bl false))) sPass)
    (sRet (dBi bAll (aCons (dLc (itAny (dVar 0)) (tgN 1) cYes (dOp (oInA false) (dVar 1) (dC (.str [97, 98, 99, 100, 101, 102, 103, 104, 105, 106, 107, 108, 109, 110, 111, 112, 113, 114, 115, 116, 117, 118, 119, 120, 121, 122]))) [1]) aNil))))
def f_is_name : List D → Sto → Res D := mkF 2 1 g_is_name
theorem sc_is_name : FnScope N_is_name ["thing"] (defScope s_is_name) := ⟨rfl, rfl, rfl, by decide +kernel, rfl, by decide +kernel, by decide +kernel⟩
section
variable {P : Program} {w : World} {K : PySem.W.Frag} {mg : Str → Option Value} {base : Heap}
theorem b_is_name (Tx : Txt K mg)  {f : Addr} (cdv : Value) (A : Around) (outer : List PySem.Env) (s : Shared) (H : Hp) (E : XK) (hr : Room 0 (A.deeper (PyProof.Rows.envOfC "is_name" (defScope s_is_name) s.heap.objs.size f cdv))) : PDb (tb K) (cxOf (L2.CX P w) P w (tb K).K mg base N_is_name "is_name" (defScope s_is_name) f cdv A outer s H E) (defBody s_is_name) (g_is_name) :=
  (b_cons (s_if (PDw.t (w_or (t_not (t_val (d_callB (fun _ _ => call_isA) (db_isO Tx.xt Tx.ob Tx.ki) Tx.f_isinstance (by decide +kernel) (a_cons (d_var 0) (a_cons (d_ty "str" Tx.f_str (by decide +kernel)) a_nil))))) (w_or1 (t_not (t_chain (fun _ _ => op_le) (fun _ _ => op_le) do_cmp do_cmp d_int (d_callB (fun _ _ => call_len) db_len Tx.f_len (by decide +kernel) (a_cons (d_var 0) a_nil)) (d_glob (d := .int 8) (v := .int 8) (fun _ _ => by unfold Rp; rfl) Tx.k_MOST_LETTERS)))))) (b_one (s_ret d_bl)) b_nil)
    (b_one (s_ret (d_callB (fun _ _ => cr_all rfl) db_all Tx.f_all (by decide +kernel) (a_cons (d_lc (own := [("sign", 1)]) sc_is_name.nd (i_any (d_var 0)) (blkOk_by (sc := defScope s_is_name) (N := N_is_name) (by decide +kernel)) (fun _ _ _ _ _ => (g_name 1 sc_is_name.nd)) (fun _ _ _ _ _ => ts_nil) (fun _ _ _ _ _ => (d_cmp (fun _ _ => op_inA) do_inA (d_var 1) (d_glob (d := .str [97, 98, 99, 100, 101, 102, 103, 104, 105, 106, 107, 108, 109, 110, 111, 112, 113, 114, 115, 116, 117, 118, 119, 120, 121, 122]) (v := .str (S [97, 98, 99, 100, 101, 102, 103, 104, 105, 106, 107, 108, 109, 110, 111, 112, 113, 114, 115, 116, 117, 118, 119, 120, 121, 122])) (fun _ _ => by unfold Rp; rfl) Tx.k_LETTERS) (by rfl)))) a_nil)))))
end
/-! ### Net.need_trip -/
abbrev N_Net_need_trip : List Str := ["self", "trip"]
def g_Net_need_trip : DS :=
  (sIf (tOrD (tNotD (tst (dCall f_is_name (aCons (dVar 1) aNil)))) (tst (dDin true (dVar 1) (dFld csT 5 4 (dVar 0))))) (sRaise 9) sPass)
def f_Net_need_trip : List D → Sto → Res D := mkF 2 2 g_Net_need_trip
theorem sc_Net_need_trip : FnScope N_Net_need_trip ["self", "trip"] (defScope s_Net_need_trip) := ⟨rfl, rfl, rfl, by decide +kernel, rfl, by decide +kernel, by decide +kernel⟩
section
variable {P : Program} {w : World} {K : PySem.W.Frag} {mg : Str → Option Value} {base : Heap}
theorem b_Net_need_trip (Tx : Txt K mg) (c_is_name : Cl (tb K) P w mg base "is_name" 1 1 f_is_name) {f : Addr} (cdv : Value) (A : Around) (outer : List PySem.Env) (s : Shared) (H : Hp) (E : XK) (hr : Room 1 (A.deeper (PyProof.Rows.envOfC "Net.need_trip" (defScope s_Net_need_trip) s.heap.objs.size f cdv))) : PDb (tb K) (cxOf (L2.CX P w) P w (tb K).K mg base N_Net_need_trip "Net.need_trip" (defScope s_Net_need_trip) f cdv A outer s H E) (defBody s_Net_need_trip) (g_Net_need_trip) :=
  (b_one (s_if (PDw.t (w_or (t_not (t_val (d_call c_is_name (a_cons (d_var 1) a_nil) hr (by omega)))) (w_or1 (t_dnotin (d_var 1) (d_fld 4 Tx.ob (d_var 0)) (hu_of hr.units))))) (b_one (s_raise 9 Tx.xt Tx.c_NoTrip)) b_nil))
end
/-! ### Net.calls -/
abbrev N_Net_calls : List Str := ["self", "trip"]
def g_Net_calls : DS :=
  (sSeq (sDrop (dMeth 5 [(19, f_Net_need_trip)] (dVar 0) (aCons (dVar 1) aNil)))
    (sRet (dBi bList (aCons (dOp oIx (dDix (dFld csT 5 4 (dVar 0)) (dVar 1)) (dC (.int 1))) aNil))))
def f_Net_calls : List D → Sto → Res D := mkF 2 2 g_Net_calls
theorem sc_Net_calls : FnScope N_Net_calls ["self", "trip"] (defScope s_Net_calls) := ⟨rfl, rfl, rfl, by decide +kernel, rfl, by decide +kernel, by decide +kernel⟩
section
variable {P : Program} {w : World} {K : PySem.W.Frag} {mg : Str → Option Value} {base : Heap}
theorem b_Net_calls (Tx : Txt K mg) (m_Net_need_trip : Mc (tb K) P w mg base 19 "need_trip" 2 2 f_Net_need_trip) {f : Addr} (cdv : Value) (A : Around) (outer : List PySem.Env) (s : Shared) (H : Hp) (E : XK) (hr : Room 2 (A.deeper (PyProof.Rows.envOfC "Net.calls" (defScope s_Net_calls) s.heap.objs.size f cdv))) : PDb (tb K) (cxOf (L2.CX P w) P w (tb K).K mg base N_Net_calls "Net.calls" (defScope s_Net_calls) f cdv A outer s H E) (defBody s_Net_calls) (g_Net_calls) :=
  (b_cons (s_expr (d_meth (nF := 5) (j := 2) (tbl := [(19, f_Net_need_trip)]) ⟨⟨m_Net_need_trip.up (by omega), rfl⟩, trivial⟩ nm_need_trip (d_var 0) (a_cons (d_var 1) a_nil) hr))
    (b_one (s_ret (d_callT (fun _ _ => call_list_of) db_list Tx.f_list (by decide +kernel) (a_cons (d_ix (d_dix (d_fld 4 Tx.ob (d_var 0)) (d_var 1) (hu_of hr.units)) d_int) a_nil)))))
end
/-! ### Net.need_stop -/
abbrev N_Net_need_stop : List Str := ["self", "stop"]
def g_Net_need_stop : DS :=
  (sIf (tOrD (tNotD (tst (dCall f_is_name (aCons (dVar 1) aNil)))) (tst (dDin true (dVar 1) (dFld csT 5 0 (dVar 0))))) (sRaise 6) sPass)
def f_Net_need_stop : List D → Sto → Res D := mkF 2 2 g_Net_need_stop
theorem sc_Net_need_stop : FnScope N_Net_need_stop ["self", "stop"] (defScope s_Net_need_stop) := ⟨rfl, rfl, rfl, by decide +kernel, rfl, by decide +kernel, by decide +kernel⟩
section
variable {P : Program} {w : World} {K : PySem.W.Frag} {mg : Str → Option Value} {base : Heap}
theorem b_Net_need_stop (Tx : Txt K mg) (c_is_name : Cl (tb K) P w mg base "is_name" 1 1 f_is_name) {f : Addr} (cdv : Value) (A : Around) (outer : List PySem.Env) (s : Shared) (H : Hp) (E : XK) (hr : Room 1 (A.deeper (PyProof.Rows.envOfC "Net.need_stop" (defScope s_Net_need_stop) s.heap.objs.size f cdv))) : PDb (tb K) (cxOf (L2.CX P w) P w (tb K).K mg base N_Net_need_stop "Net.need_stop" (defScope s_Net_need_stop) f cdv A outer s H E) (defBody s_Net_need_stop) (g_Net_need_stop) :=
  (b_one (s_if (PDw.t (w_or (t_not (t_val (d_call c_is_name (a_cons (d_var 1) a_nil) hr (by omega)))) (w_or1 (t_dnotin (d_var 1) (d_fld 0 Tx.ob (d_var 0)) (hu_of hr.units))))) (b_one (s_raise 6 Tx.xt Tx.c_NoStop)) b_nil))
end
/-! ### Net.zone -/
abbrev N_Net_zone : List Str := ["self", "stop"]
def g_Net_zone : DS :=
  (sSeq (sDrop (dMeth 5 [(19, f_Net_need_stop)] (dVar 0) (aCons (dVar 1) aNil)))
    (sRet (dOp oIx (dDix (dFld csT 5 0 (dVar 0)) (dVar 1)) (dC (.int 0)))))
def f_Net_zone : List D → Sto → Res D := mkF 2 2 g_Net_zone
theorem sc_Net_zone : FnScope N_Net_zone ["self", "stop"] (defScope s_Net_zone) := ⟨rfl, rfl, rfl, by decide +kernel, rfl, by decide +kernel, by decide +kernel⟩
section
variable {P : Program} {w : World} {K : PySem.W.Frag} {mg : Str → Option Value} {base : Heap}
theorem b_Net_zone (Tx : Txt K mg) (m_Net_need_stop : Mc (tb K) P w mg base 19 "need_stop" 2 2 f_Net_need_stop) {f : Addr} (cdv : Value) (A : Around) (outer : List PySem.Env) (s : Shared) (H : Hp) (E : XK) (hr : Room 2 (A.deeper (PyProof.Rows.envOfC "Net.zone" (defScope s_Net_zone) s.heap.objs.size f cdv))) : PDb (tb K) (cxOf (L2.CX P w) P w (tb K).K mg base N_Net_zone "Net.zone" (defScope s_Net_zone) f cdv A outer s H E) (defBody s_Net_zone) (g_Net_zone) :=
  (b_cons (s_expr (d_meth (nF := 5) (j := 2) (tbl := [(19, f_Net_need_stop)]) ⟨⟨m_Net_need_stop.up (by omega), rfl⟩, trivial⟩ nm_need_stop (d_var 0) (a_cons (d_var 1) a_nil) hr))
    (b_one (s_ret (d_ix (d_dix (d_fld 0 Tx.ob (d_var 0)) (d_var 1) (hu_of hr.units)) d_int))))
end
/-! ### zones_of -/
abbrev N_zones_of : List Str := ["net", "trip", "board", "off", "calls", "call"]
def g_zones_of : DS :=
  (sSeq (sSet 4 (dMeth 5 [(19, f_Net_calls)] (dVar 0) (aCons (dVar 1) aNil)))
    (sSeq (sIf (tOrD (tNotD (tst (dCall f_is_among (aCons (dVar 2) (aCons (dC (.int 0)) (aCons (dOp oSub (dBi bLen (aCons (dVar 4) aNil)) (dC (.int 2))) aNil)))))) (tNotD (tst (dCall f_is_among (aCons (dVar 3) (aCons (dOp oAdd (dVar 2) (dC (.int 1))) (aCons (dOp oSub (dBi bLen (aCons (dVar 4) aNil)) (dC (.int 1))) aNil))))))) (sRaise 10) sPass)
    (sRet (dCall f_zone_bits (aCons (dLc (itAny (dSl (dVar 4) (pSome (dVar 2)) (pSome (dOp oAdd (dVar 3) (dC (.int 1)))))) (tgN 5) cYes (dMeth 5 [(19, f_Net_zone)] (dVar 0) (aCons (dOp oIx (dVar 5) (dC (.int 0))) aNil)) [5]) aNil)))))
def f_zones_of : List D → Sto → Res D := mkF 6 4 g_zones_of
theorem sc_zones_of : FnScope N_zones_of ["net", "trip", "board", "off"] (defScope s_zones_of) := ⟨rfl, rfl, rfl, by decide +kernel, rfl, by decide +kernel, by decide +kernel⟩
section
variable {P : Program} {w : World} {K : PySem.W.Frag} {mg : Str → Option Value} {base : Heap}
theorem b_zones_of (Tx : Txt K mg) (c_is_among : Cl (tb K) P w mg base "is_among" 1 3 f_is_among) (c_zone_bits : Cl (tb K) P w mg base "zone_bits" 1 1 f_zone_bits) (m_Net_calls : Mc (tb K) P w mg base 19 "calls" 3 2 f_Net_calls) (m_Net_zone : Mc (tb K) P w mg base 19 "zone" 3 2 f_Net_zone) {f : Addr} (cdv : Value) (A : Around) (outer : List PySem.Env) (s : Shared) (H : Hp) (E : XK) (hr : Room 3 (A.deeper (PyProof.Rows.envOfC "zones_of" (defScope s_zones_of) s.heap.objs.size f cdv))) : PDb (tb K) (cxOf (L2.CX P w) P w (tb K).K mg base N_zones_of "zones_of" (defScope s_zones_of) f cdv A outer s H E) (defBody s_zones_of) (g_zones_of) :=
  (b_cons (s_set 4 sc_zones_of.nd (d_meth (nF := 5) (j := 3) (tbl := [(19, f_Net_calls)]) ⟨⟨m_Net_calls.up (by omega), rfl⟩, trivial⟩ nm_calls (d_var 0) (a_cons (d_var 1) a_nil) hr))
    (b_cons (s_if (PDw.t (w_or (t_not (t_val (d_call c_is_among (a_cons (d_var 2) (a_cons d_int (a_cons (d_op (fun _ _ => op_sub) do_sub (d_callB (fun _ _ => call_len) db_len Tx.f_len (by decide +kernel) (a_cons (d_var 4) a_nil)) d_int) a_nil))) hr (by omega)))) (w_or1 (t_not (t_val (d_call c_is_among (a_cons (d_var 3) (a_cons (d_op (fun _ _ => op_addA) do_add (d_var 2) d_int) (a_cons (d_op (fun _ _ => op_sub) do_sub (d_callB (fun _ _ => call_len) db_len Tx.f_len (by decide +kernel) (a_cons (d_var 4) a_nil)) d_int) a_nil))) hr (by omega))))))) (b_one (s_raise 10 Tx.xt Tx.c_BadNumber)) b_nil)
    (b_one (s_ret (d_call c_zone_bits (a_cons (d_lc (own := [("call", 5)]) sc_zones_of.nd (i_any (d_sl (d_var 4) (o_some (d_var 2)) (o_some (d_op (fun _ _ => op_addA) do_add (d_var 3) d_int)))) (blkOk_by (sc := defScope s_zones_of) (N := N_zones_of) (by decide +kernel)) (fun _ _ _ _ _ => (g_name 5 sc_zones_of.nd)) (fun _ _ _ _ _ => ts_nil) (fun _ _ _ _ _ => (d_meth (nF := 5) (j := 3) (tbl := [(19, f_Net_zone)]) ⟨⟨m_Net_zone.up (by omega), rfl⟩, trivial⟩ nm_zone (d_var 0) (a_cons (d_ix (d_var 5) d_int) a_nil) hr))) a_nil) hr (by omega))))))
end
/-! ### Net.ticket -/
abbrev N_Net_ticket : List Str := ["self", "name", "price", "lasts", "zones"]
def g_Net_ticket : DS :=
  (sSeq (sIf (tOrD (tNotD (tst (dCall f_is_name (aCons (dVar 1) aNil)))) (tst (dDin true (dVar 1) (dFld csT 5 3 (dVar 0))))) (sRaise 8) sPass)
    (sSeq (sAsg (dDix (dFld csT 5 3 (dVar 0)) (dVar 1)) (tgT [(tgN 2), (tgN 3), (tgN 4)]))
    (sRet (dTup (aCons (dVar 2) (aCons (dVar 3) (aCons (dBi bList (aCons (dVar 4) aNil)) aNil)))))))
def f_Net_ticket : List D → Sto → Res D := mkF 5 2 g_Net_ticket
theorem sc_Net_ticket : FnScope N_Net_ticket ["self", "name"] (defScope s_Net_ticket) := ⟨rfl, rfl, rfl, by decide +kernel, rfl, by decide +kernel, by decide +kernel⟩
section
variable {P : Program} {w : World} {K : PySem.W.Frag} {mg : Str → Option Value} {base : Heap}
theorem b_Net_ticket (Tx : Txt K mg) (c_is_name : Cl (tb K) P w mg base "is_name" 1 1 f_is_name) {f : Addr} (cdv : Value) (A : Around) (outer : List PySem.Env) (s : Shared) (H : Hp) (E : XK) (hr : Room 1 (A.deeper (PyProof.Rows.envOfC "Net.ticket" (defScope s_Net_ticket) s.heap.objs.size f cdv))) : PDb (tb K) (cxOf (L2.CX P w) P w (tb K).K mg base N_Net_ticket "Net.ticket" (defScope s_Net_ticket) f cdv A outer s H E) (defBody s_Net_ticket) (g_Net_ticket) :=
  (b_cons (s_if (PDw.t (w_or (t_not (t_val (d_call c_is_name (a_cons (d_var 1) a_nil) hr (by omega)))) (w_or1 (t_dnotin (d_var 1) (d_fld 3 Tx.ob (d_var 0)) (hu_of hr.units))))) (b_one (s_raise 8 Tx.xt Tx.c_NoTicket)) b_nil)
    (b_cons (s_asg (d_dix (d_fld 3 Tx.ob (d_var 0)) (d_var 1) (hu_of hr.units)) (g_tup (gs_cons (g_name 2 sc_Net_ticket.nd) (gs_cons (g_name 3 sc_Net_ticket.nd) (gs_cons (g_name 4 sc_Net_ticket.nd) gs_nil)))))
    (b_one (s_ret (d_tup (a_cons (d_var 2) (a_cons (d_var 3) (a_cons (d_callT (fun _ _ => call_list_of) db_list Tx.f_list (by decide +kernel) (a_cons (d_var 4) a_nil)) a_nil))))))))
end
/-! ### fits -/
abbrev N_fits : List Str := ["net", "ticket", "bits"]
def g_fits : DS :=
  (sRet (dOp oEq (dOp oAnd (dVar 2) (dCall f_zone_bits (aCons (dOp oIx (dMeth 5 [(19, f_Net_ticket)] (dVar 0) (aCons (dVar 1) aNil)) (dC (.int 2))) aNil))) (dVar 2)))
def f_fits : List D → Sto → Res D := mkF 3 3 g_fits
theorem sc_fits : FnScope N_fits ["net", "ticket", "bits"] (defScope s_fits) := ⟨rfl, rfl, rfl, by decide +kernel, rfl, by decide +kernel, by decide +kernel⟩
section
variable {P : Program} {w : World} {K : PySem.W.Frag} {mg : Str → Option Value} {base : Heap}
theorem b_fits (Tx : Txt K mg) (c_zone_bits : Cl (tb K) P w mg base "zone_bits" 1 1 f_zone_bits) (m_Net_ticket : Mc (tb K) P w mg base 19 "ticket" 2 2 f_Net_ticket) {f : Addr} (cdv : Value) (A : Around) (outer : List PySem.Env) (s : Shared) (H : Hp) (E : XK) (hr : Room 2 (A.deeper (PyProof.Rows.envOfC "fits" (defScope s_fits) s.heap.objs.size f cdv))) : PDb (tb K) (cxOf (L2.CX P w) P w (tb K).K mg base N_fits "fits" (defScope s_fits) f cdv A outer s H E) (defBody s_fits) (g_fits) :=
  (b_one (s_ret (d_cmp (fun _ _ => op_eqA hr.units) do_eq (d_op (fun _ _ => op_and) do_and (d_var 2) (d_call c_zone_bits (a_cons (d_ix (d_meth (nF := 5) (j := 2) (tbl := [(19, f_Net_ticket)]) ⟨⟨m_Net_ticket.up (by omega), rfl⟩, trivial⟩ nm_ticket (d_var 0) (a_cons (d_var 1) a_nil) hr) d_int) a_nil) hr (by omega))) (d_var 2) (nomark _))))
end
/-! ### need_fresh -/
abbrev N_need_fresh : List Str := ["name", "kept"]
def g_need_fresh : DS :=
  (sSeq (sIf (tNotD (tst (dCall f_is_name (aCons (dVar 0) aNil)))) (sRaise 4) sPass)
    (sIf (tst (dDin false (dVar 0) (dVar 1))) (sRaise 5) sPass))
def f_need_fresh : List D → Sto → Res D := mkF 2 2 g_need_fresh
theorem sc_need_fresh : FnScope N_need_fresh ["name", "kept"] (defScope s_need_fresh) := ⟨rfl, rfl, rfl, by decide +kernel, rfl, by decide +kernel, by decide +kernel⟩
section
variable {P : Program} {w : World} {K : PySem.W.Frag} {mg : Str → Option Value} {base : Heap}
theorem b_need_fresh (Tx : Txt K mg) (c_is_name : Cl (tb K) P w mg base "is_name" 1 1 f_is_name) {f : Addr} (cdv : Value) (A : Around) (outer : List PySem.Env) (s : Shared) (H : Hp) (E : XK) (hr : Room 1 (A.deeper (PyProof.Rows.envOfC "need_fresh" (defScope s_need_fresh) s.heap.objs.size f cdv))) : PDb (tb K) (cxOf (L2.CX P w) P w (tb K).K mg base N_need_fresh "need_fresh" (defScope s_need_fresh) f cdv A outer s H E) (defBody s_need_fresh) (g_need_fresh) :=
  (b_cons (s_if (t_not (t_val (d_call c_is_name (a_cons (d_var 0) a_nil) hr (by omega)))) (b_one (s_raise 4 Tx.xt Tx.c_BadName)) b_nil)
    (b_one (s_if (t_din (d_var 0) (d_var 1) (hu_of hr.units)) (b_one (s_raise 5 Tx.xt Tx.c_Twice)) b_nil)))
end
/-! ### need_among -/
abbrev N_need_among : List Str := ["thing", "least", "most"]
def g_need_among : DS :=
  (sIf (tNotD (tst (dCall f_is_among (aCons (dVar 0) (aCons (dVar 1) (aCons (dVar 2) aNil)))))) (sRaise 10) sPass)
def f_need_among : List D → Sto → Res D := mkF 3 3 g_need_among
theorem sc_need_among : FnScope N_need_among ["thing", "least", "most"] (defScope s_need_among) := ⟨rfl, rfl, rfl, by decide +kernel, rfl, by decide +kernel, by decide +kernel⟩
section
variable {P : Program} {w : World} {K : PySem.W.Frag} {mg : Str → Option Value} {base : Heap}
theorem b_need_among (Tx : Txt K mg) (c_is_among : Cl (tb K) P w mg base "is_among" 1 3 f_is_among) {f : Addr} (cdv : Value) (A : Around) (outer : List PySem.Env) (s : Shared) (H : Hp) (E : XK) (hr : Room 1 (A.deeper (PyProof.Rows.envOfC "need_among" (defScope s_need_among) s.heap.objs.size f cdv))) : PDb (tb K) (cxOf (L2.CX P w) P w (tb K).K mg base N_need_among "need_among" (defScope s_need_among) f cdv A outer s H E) (defBody s_need_among) (g_need_among) :=
  (b_one (s_if (t_not (t_val (d_call c_is_among (a_cons (d_var 0) (a_cons (d_var 1) (a_cons (d_var 2) a_nil))) hr (by omega)))) (b_one (s_raise 10 Tx.xt Tx.c_BadNumber)) b_nil))
end
/-! ### need_room -/
abbrev N_need_room : List Str := ["kept", "most"]
def g_need_room : DS :=
  (sIf (tst (dOp oGe (dBi bLenA (aCons (dVar 0) aNil)) (dVar 1))) (sRaise 3) sPass)
def f_need_room : List D → Sto → Res D := mkF 2 2 g_need_room
theorem sc_need_room : FnScope N_need_room ["kept", "most"] (defScope s_need_room) := ⟨rfl, rfl, rfl, by decide +kernel, rfl, by decide +kernel, by decide +kernel⟩
section
variable {P : Program} {w : World} {K : PySem.W.Frag} {mg : Str → Option Value} {base : Heap}
theorem b_need_room (Tx : Txt K mg)  {f : Addr} (cdv : Value) (A : Around) (outer : List PySem.Env) (s : Shared) (H : Hp) (E : XK) (hr : Room 0 (A.deeper (PyProof.Rows.envOfC "need_room" (defScope s_need_room) s.heap.objs.size f cdv))) : PDb (tb K) (cxOf (L2.CX P w) P w (tb K).K mg base N_need_room "need_room" (defScope s_need_room) f cdv A outer s H E) (defBody s_need_room) (g_need_room) :=
  (b_one (s_if (t_cmp (fun _ _ => op_ge) do_cmp (d_callB (fun _ _ => call_lenA) db_lenA Tx.f_len PySem.boot_len (a_cons (d_var 0) a_nil)) (d_var 1) (nomark _)) (b_one (s_raise 3 Tx.xt Tx.c_TooMany)) b_nil))
end
/-! ### are_zones -/
abbrev N_are_zones : List Str := ["thing", "zone", "one", "other"]
def g_are_zones : DS :=
  (sSeq (sIf (tOrD (tNotD (tst (dBi (bIsO parT parA csT) (aCons (dVar 0) (aCons (dC (.ty "list")) aNil))))) (tNotD (tst (dChain oLe oLe (dC (.int 1)) (dBi bLen (aCons (dVar 0) aNil)) (dC (.int 6)))))) (sRet (dC (.bl false))) sPass)
    (sSeq (sIf (tNotD (tst (dBi bAll (aCons (dLc (itAny (dVar 0)) (tgN 1) cYes (dCall f_is_among (aCons (dVar 1) (aCons (dC (.int 1)) (aCons (dC (.int 6)) aNil)))) [1]) aNil)))) (sRet (dC (.bl false))) sPass)
    (sRet (dBi bAll (aCons (dLc (itZip (aCons (dVar 0) (aCons (dSl (dVar 0) (pSome (dC (.int 1))) pNone) aNil))) (tgT [(tgN 2), (tgN 3)]) cYes (dOp oLt (dVar 2) (dVar 3)) [2, 3]) aNil)))))
def f_are_zones : List D → Sto → Res D := mkF 4 1 g_are_zones
theorem sc_are_zones : FnScope N_are_zones ["thing"] (defScope s_are_zones) := ⟨rfl, rfl, rfl, by decide +kernel, rfl, by decide +kernel, by decide +kernel⟩
section
variable {P : Program} {w : World} {K : PySem.W.Frag} {mg : Str → Option Value} {base : Heap}
theorem b_are_zones (Tx : Txt K mg) (c_is_among : Cl (tb K) P w mg base "is_among" 1 3 f_is_among) {f : Addr} (cdv : Value) (A : Around) (outer : List PySem.Env) (s : Shared) (H : Hp) (E : XK) (hr : Room 1 (A.deeper (PyProof.Rows.envOfC "are_zones" (defScope s_are_zones) s.heap.objs.size f cdv))) : PDb (tb K) (cxOf (L2.CX P w) P w (tb K).K mg base N_are_zones "are_zones" (defScope s_are_zones) f cdv A outer s H E) (defBody s_are_zones) (g_are_zones) :=
  (b_cons (s_if (PDw.t (w_or (t_not (t_val (d_callB (fun _ _ => call_isA) (db_isO Tx.xt Tx.ob Tx.ki) Tx.f_isinstance (by decide +kernel) (a_cons (d_var 0) (a_cons (d_ty "list" Tx.f_list (by decide +kernel)) a_nil))))) (w_or1 (t_not (t_chain (fun _ _ => op_le) (fun _ _ => op_le) do_cmp do_cmp d_int (d_callB (fun _ _ => call_len) db_len Tx.f_len (by decide +kernel) (a_cons (d_var 0) a_nil)) (d_glob (d := .int 6) (v := .int 6) (fun _ _ => by unfold Rp; rfl) Tx.k_MOST_ZONE)))))) (b_one (s_ret d_bl)) b_nil)
    (b_cons (s_if (t_not (t_val (d_callB (fun _ _ => cr_all rfl) db_all Tx.f_all (by decide +kernel) (a_cons (d_lc (own := [("zone", 1)]) sc_are_zones.nd (i_any (d_var 0)) (blkOk_by (sc := defScope s_are_zones) (N := N_are_zones) (by decide +kernel)) (fun _ _ _ _ _ => (g_name 1 sc_are_zones.nd)) (fun _ _ _ _ _ => ts_nil) (fun _ _ _ _ _ => (d_call c_is_among (a_cons (d_var 1) (a_cons d_int (a_cons (d_glob (d := .int 6) (v := .int 6) (fun _ _ => by unfold Rp; rfl) Tx.k_MOST_ZONE) a_nil))) hr (by omega)))) a_nil)))) (b_one (s_ret d_bl)) b_nil)
    (b_one (s_ret (d_callB (fun _ _ => cr_all rfl) db_all Tx.f_all (by decide +kernel) (a_cons (d_lc (own := [("one", 2), ("other", 3)]) sc_are_zones.nd (i_zip Tx.f_zip (a_cons (d_var 0) (a_cons (d_sl (d_var 0) (o_some d_int) o_none) a_nil))) (blkOk_by (sc := defScope s_are_zones) (N := N_are_zones) (by decide +kernel)) (fun _ _ _ _ _ => (g_tup (gs_cons (g_name 2 sc_are_zones.nd) (gs_cons (g_name 3 sc_are_zones.nd) gs_nil)))) (fun _ _ _ _ _ => ts_nil) (fun _ _ _ _ _ => (d_cmp (fun _ _ => op_lt) do_cmp (d_var 2) (d_var 3) (nomark _)))) a_nil))))))
end
/-! ### are_calls -/
abbrev N_are_calls : List Str := ["thing", "call"]
def g_are_calls : DS :=
  (sSeq (sIf (tOrD (tNotD (tst (dBi (bIsO parT parA csT) (aCons (dVar 0) (aCons (dC (.ty "list")) aNil))))) (tNotD (tst (dChain oLe oLe (dC (.int 2)) (dBi bLen (aCons (dVar 0) aNil)) (dC (.int 6)))))) (sRet (dC (.bl false))) sPass)
    (sRet (dBi bAll (aCons (dLc (itAny (dVar 0)) (tgN 1) cYes (dAndV (dBi (bIsO parT parA csT) (aCons (dVar 1) (aCons (dC (.ty "tuple")) aNil))) (dOp oEq (dBi bLen (aCons (dVar 1) aNil)) (dC (.int 3)))) [1]) aNil))))
def f_are_calls : List D → Sto → Res D := mkF 2 1 g_are_calls
theorem sc_are_calls : FnScope N_are_calls ["thing"] (defScope s_are_calls) := ⟨rfl, rfl, rfl, by decide +kernel, rfl, by decide +kernel, by decide +kernel⟩
section
variable {P : Program} {w : World} {K : PySem.W.Frag} {mg : Str → Option Value} {base : Heap}
theorem b_are_calls (Tx : Txt K mg)  {f : Addr} (cdv : Value) (A : Around) (outer : List PySem.Env) (s : Shared) (H : Hp) (E : XK) (hr : Room 0 (A.deeper (PyProof.Rows.envOfC "are_calls" (defScope s_are_calls) s.heap.objs.size f cdv))) : PDb (tb K) (cxOf (L2.CX P w) P w (tb K).K mg base N_are_calls "are_calls" (defScope s_are_calls) f cdv A outer s H E) (defBody s_are_calls) (g_are_calls) :=
  (b_cons (s_if (PDw.t (w_or (t_not (t_val (d_callB (fun _ _ => call_isA) (db_isO Tx.xt Tx.ob Tx.ki) Tx.f_isinstance (by decide +kernel) (a_cons (d_var 0) (a_cons (d_ty "list" Tx.f_list (by decide +kernel)) a_nil))))) (w_or1 (t_not (t_chain (fun _ _ => op_le) (fun _ _ => op_le) do_cmp do_cmp d_int (d_callB (fun _ _ => call_len) db_len Tx.f_len (by decide +kernel) (a_cons (d_var 0) a_nil)) (d_glob (d := .int 6) (v := .int 6) (fun _ _ => by unfold Rp; rfl) Tx.k_MOST_CALLS)))))) (b_one (s_ret d_bl)) b_nil)
    (b_one (s_ret (d_callB (fun _ _ => cr_all rfl) db_all Tx.f_all (by decide +kernel) (a_cons (d_lc (own := [("call", 1)]) sc_are_calls.nd (i_any (d_var 0)) (blkOk_by (sc := defScope s_are_calls) (N := N_are_calls) (by decide +kernel)) (fun _ _ _ _ _ => (g_name 1 sc_are_calls.nd)) (fun _ _ _ _ _ => ts_nil) (fun _ _ _ _ _ => (d_and (d_callB (fun _ _ => call_isA) (db_isO Tx.xt Tx.ob Tx.ki) Tx.f_isinstance (by decide +kernel) (a_cons (d_var 1) (a_cons (d_ty "tuple" Tx.f_tuple (by decide +kernel)) a_nil))) (d_one (d_cmp (fun _ _ => op_eqA hr.units) do_eq (d_callB (fun _ _ => call_len) db_len Tx.f_len (by decide +kernel) (a_cons (d_var 1) a_nil)) d_int (nomark _)))))) a_nil)))))
end
/-! ### rises -/
abbrev N_rises : List Str := ["ahead", "call"]
def g_rises : DS :=
  (sSeq (sIf (tst (dOp oLt (dOp oIx (dVar 1) (dC (.int 2))) (dOp oIx (dVar 1) (dC (.int 1))))) (sRet (dC (.bl false))) sPass)
    (sRet (dOrV (dOp (oIs false) (dVar 0) (dC .non)) (dAndV (dOp oNe (dOp oIx (dVar 0) (dC (.int 0))) (dOp oIx (dVar 1) (dC (.int 0)))) (dOp oLt (dOp oIx (dVar 0) (dC (.int 2))) (dOp oIx (dVar 1) (dC (.int 1))))))))
def f_rises : List D → Sto → Res D := mkF 2 2 g_rises
theorem sc_rises : FnScope N_rises ["ahead", "call"] (defScope s_rises) := ⟨rfl, rfl, rfl, by decide +kernel, rfl, by decide +kernel, by decide +kernel⟩
section
variable {P : Program} {w : World} {K : PySem.W.Frag} {mg : Str → Option Value} {base : Heap}
theorem b_rises (Tx : Txt K mg)  {f : Addr} (cdv : Value) (A : Around) (outer : List PySem.Env) (s : Shared) (H : Hp) (E : XK) (hr : Room 0 (A.deeper (PyProof.Rows.envOfC "rises" (defScope s_rises) s.heap.objs.size f cdv))) : PDb (tb K) (cxOf (L2.CX P w) P w (tb K).K mg base N_rises "rises" (defScope s_rises) f cdv A outer s H E) (defBody s_rises) (g_rises) :=
  (b_cons (s_if (t_cmp (fun _ _ => op_lt) do_cmp (d_ix (d_var 1) d_int) (d_ix (d_var 1) d_int) (nomark _)) (b_one (s_ret d_bl)) b_nil)
    (b_one (s_ret (d_or (d_cmp (fun _ _ => op_isN) do_is (d_var 0) d_non (nomark _)) (d_one (d_and (d_cmp (fun _ _ => op_neA hr.units) do_ne (d_ix (d_var 0) d_int) (d_ix (d_var 1) d_int) (nomark _)) (d_one (d_cmp (fun _ _ => op_lt) do_cmp (d_ix (d_var 0) d_int) (d_ix (d_var 1) d_int) (nomark _)))))))))
end
/-! ### Net.__init__ -/
abbrev N_Net___init__ : List Str := ["self"]
def g_Net___init__ : DS :=
  (sSeq (sFldS csT 5 0 dDctC (dVar 0))
    (sSeq (sFldS csT 5 1 (dLstC aNil) (dVar 0))
    (sSeq (sFldS csT 5 2 dDctC (dVar 0))
    (sSeq (sFldS csT 5 3 dDctC (dVar 0))
    (sFldS csT 5 4 dDctC (dVar 0))))))
def f_Net___init__ : List D → Sto → Res D := mkF 1 1 g_Net___init__
theorem sc_Net___init__ : FnScope N_Net___init__ ["self"] (defScope s_Net___init__) := ⟨rfl, rfl, rfl, by decide +kernel, rfl, by decide +kernel, by decide +kernel⟩
section
variable {P : Program} {w : World} {K : PySem.W.Frag} {mg : Str → Option Value} {base : Heap}
theorem b_Net___init__ (Tx : Txt K mg)  {f : Addr} (cdv : Value) (A : Around) (outer : List PySem.Env) (s : Shared) (H : Hp) (E : XK) (hr : Room 0 (A.deeper (PyProof.Rows.envOfC "Net.__init__" (defScope s_Net___init__) s.heap.objs.size f cdv))) : PDb (tb K) (cxOf (L2.CX P w) P w (tb K).K mg base N_Net___init__ "Net.__init__" (defScope s_Net___init__) f cdv A outer s H E) (defBody s_Net___init__) (g_Net___init__) :=
  (b_cons (s_fld 0 Tx.ob d_dctC (d_var 0))
    (b_cons (s_fld 1 Tx.ob (d_lstC a_nil) (d_var 0))
    (b_cons (s_fld 2 Tx.ob d_dctC (d_var 0))
    (b_cons (s_fld 3 Tx.ob d_dctC (d_var 0))
    (b_one (s_fld 4 Tx.ob d_dctC (d_var 0)))))))
end
/-! ### Net.need_rule -/
abbrev N_Net_need_rule : List Str := ["self", "name"]
def g_Net_need_rule : DS :=
  (sIf (tOrD (tNotD (tst (dCall f_is_name (aCons (dVar 1) aNil)))) (tst (dDin true (dVar 1) (dFld csT 5 2 (dVar 0))))) (sRaise 7) sPass)
def f_Net_need_rule : List D → Sto → Res D := mkF 2 2 g_Net_need_rule
theorem sc_Net_need_rule : FnScope N_Net_need_rule ["self", "name"] (defScope s_Net_need_rule) := ⟨rfl, rfl, rfl, by decide +kernel, rfl, by decide +kernel, by decide +kernel⟩
section
variable {P : Program} {w : World} {K : PySem.W.Frag} {mg : Str → Option Value} {base : Heap}
theorem b_Net_need_rule (Tx : Txt K mg) (c_is_name : Cl (tb K) P w mg base "is_name" 1 1 f_is_name) {f : Addr} (cdv : Value) (A : Around) (outer : List PySem.Env) (s : Shared) (H : Hp) (E : XK) (hr : Room 1 (A.deeper (PyProof.Rows.envOfC "Net.need_rule" (defScope s_Net_need_rule) s.heap.objs.size f cdv))) : PDb (tb K) (cxOf (L2.CX P w) P w (tb K).K mg base N_Net_need_rule "Net.need_rule" (defScope s_Net_need_rule) f cdv A outer s H E) (defBody s_Net_need_rule) (g_Net_need_rule) :=
  (b_one (s_if (PDw.t (w_or (t_not (t_val (d_call c_is_name (a_cons (d_var 1) a_nil) hr (by omega)))) (w_or1 (t_dnotin (d_var 1) (d_fld 2 Tx.ob (d_var 0)) (hu_of hr.units))))) (b_one (s_raise 7 Tx.xt Tx.c_NoRule)) b_nil))
end
/-! ### Net.add_stop -/
abbrev N_Net_add_stop : List Str := ["self", "name", "zone", "change"]
def g_Net_add_stop : DS :=
  (sSeq (sDrop (dCall f_need_fresh (aCons (dVar 1) (aCons (dFld csT 5 0 (dVar 0)) aNil))))
    (sSeq (sDrop (dCall f_need_among (aCons (dVar 2) (aCons (dC (.int 1)) (aCons (dC (.int 6)) aNil)))))
    (sSeq (sDrop (dCall f_need_among (aCons (dVar 3) (aCons (dC (.int 0)) (aCons (dC (.int 30)) aNil)))))
    (sSeq (sDrop (dCall f_need_room (aCons (dFld csT 5 0 (dVar 0)) (aCons (dC (.int 8)) aNil))))
    (sDput (dTup (aCons (dVar 2) (aCons (dVar 3) aNil))) (dFld csT 5 0 (dVar 0)) (dVar 1))))))
def f_Net_add_stop : List D → Sto → Res D := mkF 4 4 g_Net_add_stop
theorem sc_Net_add_stop : FnScope N_Net_add_stop ["self", "name", "zone", "change"] (defScope s_Net_add_stop) := ⟨rfl, rfl, rfl, by decide +kernel, rfl, by decide +kernel, by decide +kernel⟩
section
variable {P : Program} {w : World} {K : PySem.W.Frag} {mg : Str → Option Value} {base : Heap}
theorem b_Net_add_stop (Tx : Txt K mg) (c_need_fresh : Cl (tb K) P w mg base "need_fresh" 2 2 f_need_fresh) (c_need_among : Cl (tb K) P w mg base "need_among" 2 3 f_need_among) (c_need_room : Cl (tb K) P w mg base "need_room" 1 2 f_need_room) {f : Addr} (cdv : Value) (A : Around) (outer : List PySem.Env) (s : Shared) (H : Hp) (E : XK) (hr : Room 2 (A.deeper (PyProof.Rows.envOfC "Net.add_stop" (defScope s_Net_add_stop) s.heap.objs.size f cdv))) : PDb (tb K) (cxOf (L2.CX P w) P w (tb K).K mg base N_Net_add_stop "Net.add_stop" (defScope s_Net_add_stop) f cdv A outer s H E) (defBody s_Net_add_stop) (g_Net_add_stop) :=
  (b_cons (s_expr (d_call c_need_fresh (a_cons (d_var 1) (a_cons (d_fld 0 Tx.ob (d_var 0)) a_nil)) hr (by omega)))
    (b_cons (s_expr (d_call c_need_among (a_cons (d_var 2) (a_cons d_int (a_cons (d_glob (d := .int 6) (v := .int 6) (fun _ _ => by unfold Rp; rfl) Tx.k_MOST_ZONE) a_nil))) hr (by omega)))
    (b_cons (s_expr (d_call c_need_among (a_cons (d_var 3) (a_cons d_int (a_cons d_int a_nil))) hr (by omega)))
    (b_cons (s_expr (d_call c_need_room (a_cons (d_fld 0 Tx.ob (d_var 0)) (a_cons (d_glob (d := .int 8) (v := .int 8) (fun _ _ => by unfold Rp; rfl) Tx.k_MOST_STOPS) a_nil)) hr (by omega)))
    (b_one (s_dput (d_tup (a_cons (d_var 2) (a_cons (d_var 3) a_nil))) (d_fld 0 Tx.ob (d_var 0)) (d_var 1) (hu_of hr.units)))))))
end
/-! ### Net.add_rule -/
abbrev N_Net_add_rule : List Str := ["self", "name", "rule"]
def g_Net_add_rule : DS :=
  (sSeq (sDrop (dCall f_need_fresh (aCons (dVar 1) (aCons (dFld csT 5 2 (dVar 0)) aNil))))
    (sSeq (sIf (tNotD (tst (dBi (bIsO parT parA csT) (aCons (dVar 2) (aCons (dC (.cls 18)) aNil))))) (sRaise 2) sPass)
    (sSeq (sDrop (dCall f_need_room (aCons (dFld csT 5 2 (dVar 0)) (aCons (dC (.int 6)) aNil))))
    (sDput (dVar 2) (dFld csT 5 2 (dVar 0)) (dVar 1)))))
def f_Net_add_rule : List D → Sto → Res D := mkF 3 3 g_Net_add_rule
theorem sc_Net_add_rule : FnScope N_Net_add_rule ["self", "name", "rule"] (defScope s_Net_add_rule) := ⟨rfl, rfl, rfl, by decide +kernel, rfl, by decide +kernel, by decide +kernel⟩
section
variable {P : Program} {w : World} {K : PySem.W.Frag} {mg : Str → Option Value} {base : Heap}
theorem b_Net_add_rule (Tx : Txt K mg) (c_need_fresh : Cl (tb K) P w mg base "need_fresh" 2 2 f_need_fresh) (c_need_room : Cl (tb K) P w mg base "need_room" 1 2 f_need_room) {f : Addr} (cdv : Value) (A : Around) (outer : List PySem.Env) (s : Shared) (H : Hp) (E : XK) (hr : Room 2 (A.deeper (PyProof.Rows.envOfC "Net.add_rule" (defScope s_Net_add_rule) s.heap.objs.size f cdv))) : PDb (tb K) (cxOf (L2.CX P w) P w (tb K).K mg base N_Net_add_rule "Net.add_rule" (defScope s_Net_add_rule) f cdv A outer s H E) (defBody s_Net_add_rule) (g_Net_add_rule) :=
  (b_cons (s_expr (d_call c_need_fresh (a_cons (d_var 1) (a_cons (d_fld 2 Tx.ob (d_var 0)) a_nil)) hr (by omega)))
    (b_cons (s_if (t_not (t_val (d_callB (fun _ _ => call_isA) (db_isO Tx.xt Tx.ob Tx.ki) Tx.f_isinstance (by decide +kernel) (a_cons (d_var 2) (a_cons (d_cls 18 Tx.c_Rule) a_nil))))) (b_one (s_raise 2 Tx.xt Tx.c_BadRule)) b_nil)
    (b_cons (s_expr (d_call c_need_room (a_cons (d_fld 2 Tx.ob (d_var 0)) (a_cons (d_glob (d := .int 6) (v := .int 6) (fun _ _ => by unfold Rp; rfl) Tx.k_MOST_RULES) a_nil)) hr (by omega)))
    (b_one (s_dput (d_var 2) (d_fld 2 Tx.ob (d_var 0)) (d_var 1) (hu_of hr.units))))))
end
/-! ### Net.add_ticket -/
abbrev N_Net_add_ticket : List Str := ["self", "name", "price", "lasts", "zones"]
def g_Net_add_ticket : DS :=
  (sSeq (sDrop (dCall f_need_fresh (aCons (dVar 1) (aCons (dFld csT 5 3 (dVar 0)) aNil))))
    (sSeq (sDrop (dCall f_need_among (aCons (dVar 2) (aCons (dC (.int 0)) (aCons (dC (.int 10000)) aNil)))))
    (sSeq (sDrop (dCall f_need_among (aCons (dVar 3) (aCons (dC (.int 1)) (aCons (dC (.int 1440)) aNil)))))
    (sSeq (sIf (tNotD (tst (dCall f_are_zones (aCons (dVar 4) aNil)))) (sRaise 10) sPass)
    (sSeq (sDrop (dCall f_need_room (aCons (dFld csT 5 3 (dVar 0)) (aCons (dC (.int 3)) aNil))))
    (sDput (dTup (aCons (dVar 2) (aCons (dVar 3) (aCons (dBi bTuple (aCons (dVar 4) aNil)) aNil)))) (dFld csT 5 3 (dVar 0)) (dVar 1)))))))
def f_Net_add_ticket : List D → Sto → Res D := mkF 5 5 g_Net_add_ticket
theorem sc_Net_add_ticket : FnScope N_Net_add_ticket ["self", "name", "price", "lasts", "zones"] (defScope s_Net_add_ticket) := ⟨rfl, rfl, rfl, by decide +kernel, rfl, by decide +kernel, by decide +kernel⟩
section
variable {P : Program} {w : World} {K : PySem.W.Frag} {mg : Str → Option Value} {base : Heap}
theorem b_Net_add_ticket (Tx : Txt K mg) (c_need_fresh : Cl (tb K) P w mg base "need_fresh" 2 2 f_need_fresh) (c_need_among : Cl (tb K) P w mg base "need_among" 2 3 f_need_among) (c_are_zones : Cl (tb K) P w mg base "are_zones" 2 1 f_are_zones) (c_need_room : Cl (tb K) P w mg base "need_room" 1 2 f_need_room) {f : Addr} (cdv : Value) (A : Around) (outer : List PySem.Env) (s : Shared) (H : Hp) (E : XK) (hr : Room 2 (A.deeper (PyProof.Rows.envOfC "Net.add_ticket" (defScope s_Net_add_ticket) s.heap.objs.size f cdv))) : PDb (tb K) (cxOf (L2.CX P w) P w (tb K).K mg base N_Net_add_ticket "Net.add_ticket" (defScope s_Net_add_ticket) f cdv A outer s H E) (defBody s_Net_add_ticket) (g_Net_add_ticket) :=
  (b_cons (s_expr (d_call c_need_fresh (a_cons (d_var 1) (a_cons (d_fld 3 Tx.ob (d_var 0)) a_nil)) hr (by omega)))
    (b_cons (s_expr (d_call c_need_among (a_cons (d_var 2) (a_cons d_int (a_cons d_int a_nil))) hr (by omega)))
    (b_cons (s_expr (d_call c_need_among (a_cons (d_var 3) (a_cons d_int (a_cons d_int a_nil))) hr (by omega)))
    (b_cons (s_if (t_not (t_val (d_call c_are_zones (a_cons (d_var 4) a_nil) hr (by omega)))) (b_one (s_raise 10 Tx.xt Tx.c_BadNumber)) b_nil)
    (b_cons (s_expr (d_call c_need_room (a_cons (d_fld 3 Tx.ob (d_var 0)) (a_cons (d_glob (d := .int 3) (v := .int 3) (fun _ _ => by unfold Rp; rfl) Tx.k_MOST_TICKETS) a_nil)) hr (by omega)))
    (b_one (s_dput (d_tup (a_cons (d_var 2) (a_cons (d_var 3) (a_cons (d_callT (fun _ _ => call_tuple_of) db_tuple Tx.f_tuple (by decide +kernel) (a_cons (d_var 4) a_nil)) a_nil)))) (d_fld 3 Tx.ob (d_var 0)) (d_var 1) (hu_of hr.units))))))))
end
/-! ### Net.add_trip -/
abbrev N_Net_add_trip : List Str := ["self", "name", "rule", "calls", "ahead", "call"]
def g_Net_add_trip_b1 : DS :=
  (sSeq (sDrop (dMeth 5 [(19, f_Net_need_stop)] (dVar 0) (aCons (dOp oIx (dVar 5) (dC (.int 0))) aNil)))
    (sSeq (sDrop (dCall f_need_among (aCons (dOp oIx (dVar 5) (dC (.int 1))) (aCons (dC (.int 0)) (aCons (dC (.int 2879)) aNil)))))
    (sSeq (sDrop (dCall f_need_among (aCons (dOp oIx (dVar 5) (dC (.int 2))) (aCons (dC (.int 0)) (aCons (dC (.int 2879)) aNil)))))
    (sSeq (sIf (tNotD (tst (dCall f_rises (aCons (dVar 4) (aCons (dVar 5) aNil))))) (sRaise 11) sPass)
    (sSet 4 (dVar 5))))))
def g_Net_add_trip : DS :=
  (sSeq (sDrop (dCall f_need_fresh (aCons (dVar 1) (aCons (dFld csT 5 4 (dVar 0)) aNil))))
    (sSeq (sDrop (dMeth 5 [(19, f_Net_need_rule)] (dVar 0) (aCons (dVar 2) aNil)))
    (sSeq (sIf (tNotD (tst (dCall f_are_calls (aCons (dVar 3) aNil)))) (sRaise 11) sPass)
    (sSeq (sSet 4 (dC .non))
    (sSeq (sFor (itAny (dVar 3)) (tgN 5) g_Net_add_trip_b1)
    (sSeq (sDrop (dCall f_need_room (aCons (dFld csT 5 4 (dVar 0)) (aCons (dC (.int 10)) aNil))))
    (sDput (dTup (aCons (dVar 2) (aCons (dBi bTuple (aCons (dVar 3) aNil)) aNil))) (dFld csT 5 4 (dVar 0)) (dVar 1))))))))
def f_Net_add_trip : List D → Sto → Res D := mkF 6 4 g_Net_add_trip
theorem sc_Net_add_trip : FnScope N_Net_add_trip ["self", "name", "rule", "calls"] (defScope s_Net_add_trip) := ⟨rfl, rfl, rfl, by decide +kernel, rfl, by decide +kernel, by decide +kernel⟩
section
variable {P : Program} {w : World} {K : PySem.W.Frag} {mg : Str → Option Value} {base : Heap}
theorem b_Net_add_trip (Tx : Txt K mg) (c_need_fresh : Cl (tb K) P w mg base "need_fresh" 2 2 f_need_fresh) (c_are_calls : Cl (tb K) P w mg base "are_calls" 1 1 f_are_calls) (c_need_among : Cl (tb K) P w mg base "need_among" 2 3 f_need_among) (c_rises : Cl (tb K) P w mg base "rises" 1 2 f_rises) (c_need_room : Cl (tb K) P w mg base "need_room" 1 2 f_need_room) (m_Net_need_rule : Mc (tb K) P w mg base 19 "need_rule" 2 2 f_Net_need_rule) (m_Net_need_stop : Mc (tb K) P w mg base 19 "need_stop" 2 2 f_Net_need_stop) {f : Addr} (cdv : Value) (A : Around) (outer : List PySem.Env) (s : Shared) (H : Hp) (E : XK) (hr : Room 2 (A.deeper (PyProof.Rows.envOfC "Net.add_trip" (defScope s_Net_add_trip) s.heap.objs.size f cdv))) : PDb (tb K) (cxOf (L2.CX P w) P w (tb K).K mg base N_Net_add_trip "Net.add_trip" (defScope s_Net_add_trip) f cdv A outer s H E) (defBody s_Net_add_trip) (g_Net_add_trip) :=
  (b_cons (s_expr (d_call c_need_fresh (a_cons (d_var 1) (a_cons (d_fld 4 Tx.ob (d_var 0)) a_nil)) hr (by omega)))
    (b_cons (s_expr (d_meth (nF := 5) (j := 2) (tbl := [(19, f_Net_need_rule)]) ⟨⟨m_Net_need_rule.up (by omega), rfl⟩, trivial⟩ nm_need_rule (d_var 0) (a_cons (d_var 2) a_nil) hr))
    (b_cons (s_if (t_not (t_val (d_call c_are_calls (a_cons (d_var 3) a_nil) hr (by omega)))) (b_one (s_raise 11 Tx.xt Tx.c_BadCalls)) b_nil)
    (b_cons (s_set 4 sc_Net_add_trip.nd d_non)
    (b_cons (s_for (i_any (d_var 3)) (g_name 5 sc_Net_add_trip.nd) (b_cons (s_expr (d_meth (nF := 5) (j := 2) (tbl := [(19, f_Net_need_stop)]) ⟨⟨m_Net_need_stop.up (by omega), rfl⟩, trivial⟩ nm_need_stop (d_var 0) (a_cons (d_ix (d_var 5) d_int) a_nil) hr))
    (b_cons (s_expr (d_call c_need_among (a_cons (d_ix (d_var 5) d_int) (a_cons d_int (a_cons (d_glob (d := .int 2879) (v := .int 2879) (fun _ _ => by unfold Rp; rfl) Tx.k_MOST_MINUTE) a_nil))) hr (by omega)))
    (b_cons (s_expr (d_call c_need_among (a_cons (d_ix (d_var 5) d_int) (a_cons d_int (a_cons (d_glob (d := .int 2879) (v := .int 2879) (fun _ _ => by unfold Rp; rfl) Tx.k_MOST_MINUTE) a_nil))) hr (by omega)))
    (b_cons (s_if (t_not (t_val (d_call c_rises (a_cons (d_var 4) (a_cons (d_var 5) a_nil)) hr (by omega)))) (b_one (s_raise 11 Tx.xt Tx.c_BadCalls)) b_nil)
    (b_one (s_set 4 sc_Net_add_trip.nd (d_var 5))))))))
    (b_cons (s_expr (d_call c_need_room (a_cons (d_fld 4 Tx.ob (d_var 0)) (a_cons (d_glob (d := .int 10) (v := .int 10) (fun _ _ => by unfold Rp; rfl) Tx.k_MOST_TRIPS) a_nil)) hr (by omega)))
    (b_one (s_dput (d_tup (a_cons (d_var 2) (a_cons (d_callT (fun _ _ => call_tuple_of) db_tuple Tx.f_tuple (by decide +kernel) (a_cons (d_var 3) a_nil)) a_nil))) (d_fld 4 Tx.ob (d_var 0)) (d_var 1) (hu_of hr.units)))))))))
end
/-! ### _law_draw -/
abbrev N__law_draw : List Str := ["_law_script", "_law_k", "_law_cell", "_law_number"]
def g__law_draw : DS :=
  (sSeq (sSet 2 (dC (.int 0)))
    (sSeq (sIf (tst (dOp oNe (dVar 0) (dLst aNil))) (sSet 2 (dOp oIx (dVar 0) (dOp oMod (dVar 1) (dBi bLen (aCons (dVar 0) aNil))))) sPass)
    (sSeq (sSet 3 (dOp oAdd (dOp oAdd (dOp oMod (dVar 2) (dC (.int 1000000007))) (dOp oMulA (dC (.int 7919)) (dVar 1))) (dC (.int 13))))
    (sRet (dOp oDiv (dOp oMod (dOp oMulA (dOp oMod (dOp oMulA (dVar 3) (dVar 3)) (dC (.int 1000000007))) (dVar 3)) (dC (.int 998244353))) (dC (.int 11)))))))
def f__law_draw : List D → Sto → Res D := mkF 4 2 g__law_draw
theorem sc__law_draw : FnScope N__law_draw ["_law_script", "_law_k"] (defScope s__law_draw) := ⟨rfl, rfl, rfl, by decide +kernel, rfl, by decide +kernel, by decide +kernel⟩
section
variable {P : Program} {w : World} {K : PySem.W.Frag} {mg : Str → Option Value} {base : Heap}
theorem b__law_draw (Tx : Txt K mg)  {f : Addr} (cdv : Value) (A : Around) (outer : List PySem.Env) (s : Shared) (H : Hp) (E : XK) (hr : Room 0 (A.deeper (PyProof.Rows.envOfC "_law_draw" (defScope s__law_draw) s.heap.objs.size f cdv))) : PDb (tb K) (cxOf (L2.CX P w) P w (tb K).K mg base N__law_draw "_law_draw" (defScope s__law_draw) f cdv A outer s H E) (defBody s__law_draw) (g__law_draw) :=
  (b_cons (s_set 2 sc__law_draw.nd d_int)
    (b_cons (s_if (t_cmp (fun _ _ => op_neA hr.units) do_ne (d_var 0) (d_lst a_nil) (nomark _)) (b_one (s_set 2 sc__law_draw.nd (d_ix (d_var 0) (d_op (fun _ _ => op_mod) do_mod (d_var 1) (d_callB (fun _ _ => call_len) db_len Tx.f_len (by decide +kernel) (a_cons (d_var 0) a_nil)))))) b_nil)
    (b_cons (s_set 3 sc__law_draw.nd (d_op (fun _ _ => op_addA) do_add (d_op (fun _ _ => op_addA) do_add (d_op (fun _ _ => op_mod) do_mod (d_var 2) d_int) (d_op (fun _ _ => op_mulA) do_mulA d_int (d_var 1))) d_int))
    (b_one (s_ret (d_op (fun _ _ => op_fdiv) do_div (d_op (fun _ _ => op_mod) do_mod (d_op (fun _ _ => op_mulA) do_mulA (d_op (fun _ _ => op_mod) do_mod (d_op (fun _ _ => op_mulA) do_mulA (d_var 3) (d_var 3)) d_int) (d_var 3)) d_int) d_int))))))
end
/-! ### _law_whole -/
abbrev N__law_whole : List Str := ["_law_found"]
def g__law_whole : DS :=
  (sRet (dAndV (dBi (bIsO parT parA csT) (aCons (dVar 0) (aCons (dC (.ty "int")) aNil))) (dNotV (dBi (bIsO parT parA csT) (aCons (dVar 0) (aCons (dC (.ty "bool")) aNil))))))
def f__law_whole : List D → Sto → Res D := mkF 1 1 g__law_whole
theorem sc__law_whole : FnScope N__law_whole ["_law_found"] (defScope s__law_whole) := ⟨rfl, rfl, rfl, by decide +kernel, rfl, by decide +kernel, by decide +kernel⟩
section
variable {P : Program} {w : World} {K : PySem.W.Frag} {mg : Str → Option Value} {base : Heap}
theorem b__law_whole (Tx : Txt K mg)  {f : Addr} (cdv : Value) (A : Around) (outer : List PySem.Env) (s : Shared) (H : Hp) (E : XK) (hr : Room 0 (A.deeper (PyProof.Rows.envOfC "_law_whole" (defScope s__law_whole) s.heap.objs.size f cdv))) : PDb (tb K) (cxOf (L2.CX P w) P w (tb K).K mg base N__law_whole "_law_whole" (defScope s__law_whole) f cdv A outer s H E) (defBody s__law_whole) (g__law_whole) :=
  (b_one (s_ret (d_and (d_callB (fun _ _ => call_isA) (db_isO Tx.xt Tx.ob Tx.ki) Tx.f_isinstance (by decide +kernel) (a_cons (d_var 0) (a_cons (d_ty "int" Tx.f_int (by decide +kernel)) a_nil))) (d_one (d_not (d_callB (fun _ _ => call_isA) (db_isO Tx.xt Tx.ob Tx.ki) Tx.f_isinstance (by decide +kernel) (a_cons (d_var 0) (a_cons (d_ty "bool" Tx.f_bool (by decide +kernel)) a_nil))))))))
end
/-! ### _law_word -/
abbrev N__law_word : List Str := ["_law_e", "_law_some", "_law_word_here", "_law_is_so"]
def g__law_word : DS :=
  (sSeq (sSet 1 (dLst (aCons (dTup (aCons (dC (.str [99, 97, 108, 108, 115])) (aCons (dBi (bIsO parT parA csT) (aCons (dVar 0) (aCons (dC (.cls 11)) aNil))) aNil))) (aCons (dTup (aCons (dC (.str [99, 108, 111, 99, 107])) (aCons (dBi (bIsO parT parA csT) (aCons (dVar 0) (aCons (dC (.cls 1)) aNil))) aNil))) (aCons (dTup (aCons (dC (.str [108, 105, 110, 101])) (aCons (dBi (bIsO parT parA csT) (aCons (dVar 0) (aCons (dC (.cls 15)) aNil))) aNil))) aNil)))))
    (sSeq (sSet 1 (dOp oAdd (dVar 1) (dLst (aCons (dTup (aCons (dC (.str [110, 97, 109, 101])) (aCons (dBi (bIsO parT parA csT) (aCons (dVar 0) (aCons (dC (.cls 4)) aNil))) aNil))) (aCons (dTup (aCons (dC (.str [110, 117, 109, 98, 101, 114])) (aCons (dBi (bIsO parT parA csT) (aCons (dVar 0) (aCons (dC (.cls 10)) aNil))) aNil))) aNil)))))
    (sSeq (sSet 1 (dOp oAdd (dVar 1) (dLst (aCons (dTup (aCons (dC (.str [114, 111, 119])) (aCons (dBi (bIsO parT parA csT) (aCons (dVar 0) (aCons (dC (.cls 16)) aNil))) aNil))) (aCons (dTup (aCons (dC (.str [100, 97, 121, 115])) (aCons (dBi (bIsO parT parA csT) (aCons (dVar 0) (aCons (dC (.cls 2)) aNil))) aNil))) (aCons (dTup (aCons (dC (.str [112, 108, 97, 110])) (aCons (dBi (bIsO parT parA csT) (aCons (dVar 0) (aCons (dC (.cls 17)) aNil))) aNil))) aNil))))))
    (sSeq (sSet 1 (dOp oAdd (dVar 1) (dLst (aCons (dTup (aCons (dC (.str [114, 117, 108, 101])) (aCons (dBi (bIsO parT parA csT) (aCons (dVar 0) (aCons (dC (.cls 7)) aNil))) aNil))) aNil))))
    (sSeq (sSet 1 (dOp oAdd (dVar 1) (dLst (aCons (dTup (aCons (dC (.str [114, 117, 110])) (aCons (dBi (bIsO parT parA csT) (aCons (dVar 0) (aCons (dC (.cls 12)) aNil))) aNil))) (aCons (dTup (aCons (dC (.str [115, 116, 111, 112])) (aCons (dBi (bIsO parT parA csT) (aCons (dVar 0) (aCons (dC (.cls 6)) aNil))) aNil))) (aCons (dTup (aCons (dC (.str [116, 105, 99, 107, 101, 116])) (aCons (dBi (bIsO parT parA csT) (aCons (dVar 0) (aCons (dC (.cls 8)) aNil))) aNil))) aNil))))))
    (sSeq (sSet 1 (dOp oAdd (dVar 1) (dLst (aCons (dTup (aCons (dC (.str [116, 114, 97, 118, 101, 108, 108, 101, 114])) (aCons (dBi (bIsO parT parA csT) (aCons (dVar 0) (aCons (dC (.cls 14)) aNil))) aNil))) (aCons (dTup (aCons (dC (.str [116, 114, 105, 112])) (aCons (dBi (bIsO parT parA csT) (aCons (dVar 0) (aCons (dC (.cls 9)) aNil))) aNil))) aNil)))))
    (sSeq (sSet 1 (dOp oAdd (dVar 1) (dLst (aCons (dTup (aCons (dC (.str [108, 97, 116, 101])) (aCons (dBi (bIsO parT parA csT) (aCons (dVar 0) (aCons (dC (.cls 13)) aNil))) aNil))) (aCons (dTup (aCons (dC (.str [109, 97, 110, 121])) (aCons (dBi (bIsO parT parA csT) (aCons (dVar 0) (aCons (dC (.cls 3)) aNil))) aNil))) (aCons (dTup (aCons (dC (.str [116, 119, 105, 99, 101])) (aCons (dBi (bIsO parT parA csT) (aCons (dVar 0) (aCons (dC (.cls 5)) aNil))) aNil))) aNil))))))
    (sRet (dOp oAdd (dLc (itAny (dVar 1)) (tgT [(tgN 2), (tgN 3)]) (tst (dVar 3)) (dVar 2) [2, 3]) (dOp oMulA (dLst (aCons (dC (.str [101, 108, 115, 101])) aNil)) (dBi bInt (aCons (dNotV (dBi (bIsO parT parA csT) (aCons (dVar 0) (aCons (dC (.ty "ValueError")) aNil)))) aNil))))))))))))
def f__law_word : List D → Sto → Res D := mkF 4 1 g__law_word
theorem sc__law_word : FnScope N__law_word ["_law_e"] (defScope s__law_word) := ⟨rfl, rfl, rfl, by decide +kernel, rfl, by decide +kernel, by decide +kernel⟩
section
variable {P : Program} {w : World} {K : PySem.W.Frag} {mg : Str → Option Value} {base : Heap}
theorem b__law_word (Tx : Txt K mg)  {f : Addr} (cdv : Value) (A : Around) (outer : List PySem.Env) (s : Shared) (H : Hp) (E : XK) (hr : Room 0 (A.deeper (PyProof.Rows.envOfC "_law_word" (defScope s__law_word) s.heap.objs.size f cdv))) : PDb (tb K) (cxOf (L2.CX P w) P w (tb K).K mg base N__law_word "_law_word" (defScope s__law_word) f cdv A outer s H E) (defBody s__law_word) (g__law_word) :=
  (b_cons (s_set 1 sc__law_word.nd (d_lst (a_cons (d_tup (a_cons (d_str [99, 97, 108, 108, 115] (by decide +kernel)) (a_cons (d_callB (fun _ _ => call_isA) (db_isO Tx.xt Tx.ob Tx.ki) Tx.f_isinstance (by decide +kernel) (a_cons (d_var 0) (a_cons (d_cls 11 Tx.c_BadCalls) a_nil))) a_nil))) (a_cons (d_tup (a_cons (d_str [99, 108, 111, 99, 107] (by decide +kernel)) (a_cons (d_callB (fun _ _ => call_isA) (db_isO Tx.xt Tx.ob Tx.ki) Tx.f_isinstance (by decide +kernel) (a_cons (d_var 0) (a_cons (d_cls 1 Tx.c_BadClock) a_nil))) a_nil))) (a_cons (d_tup (a_cons (d_str [108, 105, 110, 101] (by decide +kernel)) (a_cons (d_callB (fun _ _ => call_isA) (db_isO Tx.xt Tx.ob Tx.ki) Tx.f_isinstance (by decide +kernel) (a_cons (d_var 0) (a_cons (d_cls 15 Tx.c_BadLine) a_nil))) a_nil))) a_nil)))))
    (b_cons (s_set 1 sc__law_word.nd (d_op (fun _ _ => op_addA) do_add (d_var 1) (d_lst (a_cons (d_tup (a_cons (d_str [110, 97, 109, 101] (by decide +kernel)) (a_cons (d_callB (fun _ _ => call_isA) (db_isO Tx.xt Tx.ob Tx.ki) Tx.f_isinstance (by decide +kernel) (a_cons (d_var 0) (a_cons (d_cls 4 Tx.c_BadName) a_nil))) a_nil))) (a_cons (d_tup (a_cons (d_str [110, 117, 109, 98, 101, 114] (by decide +kernel)) (a_cons (d_callB (fun _ _ => call_isA) (db_isO Tx.xt Tx.ob Tx.ki) Tx.f_isinstance (by decide +kernel) (a_cons (d_var 0) (a_cons (d_cls 10 Tx.c_BadNumber) a_nil))) a_nil))) a_nil)))))
    (b_cons (s_set 1 sc__law_word.nd (d_op (fun _ _ => op_addA) do_add (d_var 1) (d_lst (a_cons (d_tup (a_cons (d_str [114, 111, 119] (by decide +kernel)) (a_cons (d_callB (fun _ _ => call_isA) (db_isO Tx.xt Tx.ob Tx.ki) Tx.f_isinstance (by decide +kernel) (a_cons (d_var 0) (a_cons (d_cls 16 Tx.c_BadRow) a_nil))) a_nil))) (a_cons (d_tup (a_cons (d_str [100, 97, 121, 115] (by decide +kernel)) (a_cons (d_callB (fun _ _ => call_isA) (db_isO Tx.xt Tx.ob Tx.ki) Tx.f_isinstance (by decide +kernel) (a_cons (d_var 0) (a_cons (d_cls 2 Tx.c_BadRule) a_nil))) a_nil))) (a_cons (d_tup (a_cons (d_str [112, 108, 97, 110] (by decide +kernel)) (a_cons (d_callB (fun _ _ => call_isA) (db_isO Tx.xt Tx.ob Tx.ki) Tx.f_isinstance (by decide +kernel) (a_cons (d_var 0) (a_cons (d_cls 17 Tx.c_NoPlan) a_nil))) a_nil))) a_nil))))))
    (b_cons (s_set 1 sc__law_word.nd (d_op (fun _ _ => op_addA) do_add (d_var 1) (d_lst (a_cons (d_tup (a_cons (d_str [114, 117, 108, 101] (by decide +kernel)) (a_cons (d_callB (fun _ _ => call_isA) (db_isO Tx.xt Tx.ob Tx.ki) Tx.f_isinstance (by decide +kernel) (a_cons (d_var 0) (a_cons (d_cls 7 Tx.c_NoRule) a_nil))) a_nil))) a_nil))))
    (b_cons (s_set 1 sc__law_word.nd (d_op (fun _ _ => op_addA) do_add (d_var 1) (d_lst (a_cons (d_tup (a_cons (d_str [114, 117, 110] (by decide +kernel)) (a_cons (d_callB (fun _ _ => call_isA) (db_isO Tx.xt Tx.ob Tx.ki) Tx.f_isinstance (by decide +kernel) (a_cons (d_var 0) (a_cons (d_cls 12 Tx.c_NoRun) a_nil))) a_nil))) (a_cons (d_tup (a_cons (d_str [115, 116, 111, 112] (by decide +kernel)) (a_cons (d_callB (fun _ _ => call_isA) (db_isO Tx.xt Tx.ob Tx.ki) Tx.f_isinstance (by decide +kernel) (a_cons (d_var 0) (a_cons (d_cls 6 Tx.c_NoStop) a_nil))) a_nil))) (a_cons (d_tup (a_cons (d_str [116, 105, 99, 107, 101, 116] (by decide +kernel)) (a_cons (d_callB (fun _ _ => call_isA) (db_isO Tx.xt Tx.ob Tx.ki) Tx.f_isinstance (by decide +kernel) (a_cons (d_var 0) (a_cons (d_cls 8 Tx.c_NoTicket) a_nil))) a_nil))) a_nil))))))
    (b_cons (s_set 1 sc__law_word.nd (d_op (fun _ _ => op_addA) do_add (d_var 1) (d_lst (a_cons (d_tup (a_cons (d_str [116, 114, 97, 118, 101, 108, 108, 101, 114] (by decide +kernel)) (a_cons (d_callB (fun _ _ => call_isA) (db_isO Tx.xt Tx.ob Tx.ki) Tx.f_isinstance (by decide +kernel) (a_cons (d_var 0) (a_cons (d_cls 14 Tx.c_NoTraveller) a_nil))) a_nil))) (a_cons (d_tup (a_cons (d_str [116, 114, 105, 112] (by decide +kernel)) (a_cons (d_callB (fun _ _ => call_isA) (db_isO Tx.xt Tx.ob Tx.ki) Tx.f_isinstance (by decide +kernel) (a_cons (d_var 0) (a_cons (d_cls 9 Tx.c_NoTrip) a_nil))) a_nil))) a_nil)))))
    (b_cons (s_set 1 sc__law_word.nd (d_op (fun _ _ => op_addA) do_add (d_var 1) (d_lst (a_cons (d_tup (a_cons (d_str [108, 97, 116, 101] (by decide +kernel)) (a_cons (d_callB (fun _ _ => call_isA) (db_isO Tx.xt Tx.ob Tx.ki) Tx.f_isinstance (by decide +kernel) (a_cons (d_var 0) (a_cons (d_cls 13 Tx.c_TooLate) a_nil))) a_nil))) (a_cons (d_tup (a_cons (d_str [109, 97, 110, 121] (by decide +kernel)) (a_cons (d_callB (fun _ _ => call_isA) (db_isO Tx.xt Tx.ob Tx.ki) Tx.f_isinstance (by decide +kernel) (a_cons (d_var 0) (a_cons (d_cls 3 Tx.c_TooMany) a_nil))) a_nil))) (a_cons (d_tup (a_cons (d_str [116, 119, 105, 99, 101] (by decide +kernel)) (a_cons (d_callB (fun _ _ => call_isA) (db_isO Tx.xt Tx.ob Tx.ki) Tx.f_isinstance (by decide +kernel) (a_cons (d_var 0) (a_cons (d_cls 5 Tx.c_Twice) a_nil))) a_nil))) a_nil))))))
    (b_one (s_ret (d_op (fun _ _ => op_addA) do_add (d_lc (own := [("_law_word_here", 2), ("_law_is_so", 3)]) sc__law_word.nd (i_any (d_var 1)) (blkOk_by (sc := defScope s__law_word) (N := N__law_word) (by decide +kernel)) (fun _ _ _ _ _ => (g_tup (gs_cons (g_name 2 sc__law_word.nd) (gs_cons (g_name 3 sc__law_word.nd) gs_nil)))) (fun _ _ _ _ _ => ts_one (t_val (d_var 3))) (fun _ _ _ _ _ => (d_var 2))) (d_op (fun _ _ => op_mulA) do_mulA (d_lst (a_cons (d_str [101, 108, 115, 101] (by decide +kernel)) a_nil)) (d_callT (fun _ _ => call_intA) db_int Tx.f_int (by decide +kernel) (a_cons (d_not (d_callB (fun _ _ => call_isA) (db_isO Tx.xt Tx.ob Tx.ki) Tx.f_isinstance (by decide +kernel) (a_cons (d_var 0) (a_cons (d_ty "ValueError" Tx.f_ValueError (by decide +kernel)) a_nil)))) a_nil)))))))))))))
end
/-! ### _law_names -/
abbrev N__law_names : List Str := ["_law_script", "_law_k", "_law_many", "_law_letters", "_law_number", "_law_row", "_law_size", "_law_at", "_law_rest", "_law_j"]
def g__law_names : DS :=
  (sSeq (sSet 3 (dC (.str [97, 98, 99, 100, 101, 102, 103, 104, 105, 106, 107, 108, 109, 110, 111, 112, 113, 114, 115, 116, 117, 118, 119, 120, 121, 122])))
    (sSeq (sSet 4 (dCall f__law_draw (aCons (dVar 0) (aCons (dVar 1) aNil))))
    (sSeq (sIf (tst (dOp oEq (dOp oMod (dVar 4) (dC (.int 3))) (dC (.int 1)))) (sSeq (sSet 5 (dMt "str" mJoin (dC (.str [])) (aCons (dLc (itR1 (aCons (dC (.int 8)) aNil)) (tgN 9) cYes (dOp oIx (dVar 3) (dOp oMod (dOp oAdd (dOp oDiv (dVar 4) (dC (.int 3))) (dOp oMulA (dC (.int 5)) (dVar 9))) (dC (.int 26)))) [9]) aNil)))
    (sRet (dLc (itR1 (aCons (dVar 2) aNil)) (tgN 9) cYes (dSl (dVar 5) pNone (pSome (dOp oAdd (dC (.int 1)) (dVar 9)))) [9]))) sPass)
    (sSeq (sSet 6 (dOp oMod (dOp oDiv (dVar 4) (dC (.int 3))) (dC (.int 8))))
    (sSeq (sSet 7 (dOp oMod (dOp oDiv (dVar 4) (dC (.int 24))) (dOp oAdd (dVar 6) (dC (.int 1)))))
    (sSeq (sSet 8 (dMt "str" mJoin (dC (.str [])) (aCons (dLc (itR1 (aCons (dVar 6) aNil)) (tgN 9) cYes (dOp oIx (dVar 3) (dOp oMod (dOp oAdd (dOp oDiv (dVar 4) (dC (.int 216))) (dOp oMulA (dC (.int 7)) (dVar 9))) (dC (.int 26)))) [9]) aNil)))
    (sRet (dLc (itR1 (aCons (dVar 2) aNil)) (tgN 9) cYes (dOp oAdd (dOp oAdd (dSl (dVar 8) pNone (pSome (dVar 7))) (dOp oIx (dVar 3) (dOp oMod (dOp oAdd (dOp oDiv (dVar 4) (dC (.int 5616))) (dVar 9)) (dC (.int 26))))) (dSl (dVar 8) (pSome (dVar 7)) pNone)) [9]))))))))
def f__law_names : List D → Sto → Res D := mkF 10 3 g__law_names
theorem sc__law_names : FnScope N__law_names ["_law_script", "_law_k", "_law_many"] (defScope s__law_names) := ⟨rfl, rfl, rfl, by decide +kernel, rfl, by decide +kernel, by decide +kernel⟩
section
variable {P : Program} {w : World} {K : PySem.W.Frag} {mg : Str → Option Value} {base : Heap}
theorem b__law_names (Tx : Txt K mg) (c__law_draw : Cl (tb K) P w mg base "_law_draw" 1 2 f__law_draw) {f : Addr} (cdv : Value) (A : Around) (outer : List PySem.Env) (s : Shared) (H : Hp) (E : XK) (hr : Room 1 (A.deeper (PyProof.Rows.envOfC "_law_names" (defScope s__law_names) s.heap.objs.size f cdv))) : PDb (tb K) (cxOf (L2.CX P w) P w (tb K).K mg base N__law_names "_law_names" (defScope s__law_names) f cdv A outer s H E) (defBody s__law_names) (g__law_names) :=
  (b_cons (s_set 3 sc__law_names.nd (d_str [97, 98, 99, 100, 101, 102, 103, 104, 105, 106, 107, 108, 109, 110, 111, 112, 113, 114, 115, 116, 117, 118, 119, 120, 121, 122] (by decide +kernel)))
    (b_cons (s_set 4 sc__law_names.nd (d_call c__law_draw (a_cons (d_var 0) (a_cons (d_var 1) a_nil)) hr (by omega)))
    (b_cons (s_if (t_cmp (fun _ _ => op_eqA hr.units) do_eq (d_op (fun _ _ => op_mod) do_mod (d_var 4) d_int) d_int (nomark _)) (b_cons (s_set 5 sc__law_names.nd (d_mt PySem.F.plainAttrs_str PySem.F.slot_str_join PySem.F.type_str_join (fun _ _ => mt_join) dm_join (d_str [] (by decide +kernel)) (a_cons (d_lc (own := [("_law_j", 9)]) sc__law_names.nd (i_range1 Tx.f_range (a_cons d_int a_nil)) (blkOk_by (sc := defScope s__law_names) (N := N__law_names) (by decide +kernel)) (fun _ _ _ _ _ => (g_name 9 sc__law_names.nd)) (fun _ _ _ _ _ => ts_nil) (fun _ _ _ _ _ => (d_ix (d_var 3) (d_op (fun _ _ => op_mod) do_mod (d_op (fun _ _ => op_addA) do_add (d_op (fun _ _ => op_fdiv) do_div (d_var 4) d_int) (d_op (fun _ _ => op_mulA) do_mulA d_int (d_var 9))) d_int)))) a_nil)))
    (b_one (s_ret (d_lc (own := [("_law_j", 9)]) sc__law_names.nd (i_range1 Tx.f_range (a_cons (d_var 2) a_nil)) (blkOk_by (sc := defScope s__law_names) (N := N__law_names) (by decide +kernel)) (fun _ _ _ _ _ => (g_name 9 sc__law_names.nd)) (fun _ _ _ _ _ => ts_nil) (fun _ _ _ _ _ => (d_sl (d_var 5) o_none (o_some (d_op (fun _ _ => op_addA) do_add d_int (d_var 9))))))))) b_nil)
    (b_cons (s_set 6 sc__law_names.nd (d_op (fun _ _ => op_mod) do_mod (d_op (fun _ _ => op_fdiv) do_div (d_var 4) d_int) d_int))
    (b_cons (s_set 7 sc__law_names.nd (d_op (fun _ _ => op_mod) do_mod (d_op (fun _ _ => op_fdiv) do_div (d_var 4) d_int) (d_op (fun _ _ => op_addA) do_add (d_var 6) d_int)))
    (b_cons (s_set 8 sc__law_names.nd (d_mt PySem.F.plainAttrs_str PySem.F.slot_str_join PySem.F.type_str_join (fun _ _ => mt_join) dm_join (d_str [] (by decide +kernel)) (a_cons (d_lc (own := [("_law_j", 9)]) sc__law_names.nd (i_range1 Tx.f_range (a_cons (d_var 6) a_nil)) (blkOk_by (sc := defScope s__law_names) (N := N__law_names) (by decide +kernel)) (fun _ _ _ _ _ => (g_name 9 sc__law_names.nd)) (fun _ _ _ _ _ => ts_nil) (fun _ _ _ _ _ => (d_ix (d_var 3) (d_op (fun _ _ => op_mod) do_mod (d_op (fun _ _ => op_addA) do_add (d_op (fun _ _ => op_fdiv) do_div (d_var 4) d_int) (d_op (fun _ _ => op_mulA) do_mulA d_int (d_var 9))) d_int)))) a_nil)))
    (b_one (s_ret (d_lc (own := [("_law_j", 9)]) sc__law_names.nd (i_range1 Tx.f_range (a_cons (d_var 2) a_nil)) (blkOk_by (sc := defScope s__law_names) (N := N__law_names) (by decide +kernel)) (fun _ _ _ _ _ => (g_name 9 sc__law_names.nd)) (fun _ _ _ _ _ => ts_nil) (fun _ _ _ _ _ => (d_op (fun _ _ => op_addA) do_add (d_op (fun _ _ => op_addA) do_add (d_sl (d_var 8) o_none (o_some (d_var 7))) (d_ix (d_var 3) (d_op (fun _ _ => op_mod) do_mod (d_op (fun _ _ => op_addA) do_add (d_op (fun _ _ => op_fdiv) do_div (d_var 4) d_int) (d_var 9)) d_int))) (d_sl (d_var 8) (o_some (d_var 7)) o_none))))))))))))
end
/-! ### _law_calls -/
abbrev N__law_calls : List Str := ["_law_script", "_law_k", "_law_names_here", "_law_calls_here", "_law_stop", "_law_minute", "_law_j", "_law_number", "_law_arrive"]
def g__law_calls_b1 : DS :=
  (sSeq (sSet 7 (dCall f__law_draw (aCons (dVar 0) (aCons (dOp oAdd (dOp oAdd (dVar 1) (dC (.int 1))) (dVar 6)) aNil))))
    (sSeq (sSet 4 (dOp oMod (dOp oAdd (dOp oAdd (dVar 4) (dC (.int 1))) (dOp oMod (dVar 7) (dOp oSub (dBi bLen (aCons (dVar 2) aNil)) (dC (.int 1))))) (dBi bLen (aCons (dVar 2) aNil))))
    (sSeq (sSet 8 (dOp oAdd (dOp oAdd (dVar 5) (dC (.int 1))) (dOp oMod (dOp oDiv (dVar 7) (dC (.int 8))) (dC (.int 40)))))
    (sSeq (sSet 5 (dOp oAdd (dVar 8) (dOp oMulA (dOp oMod (dOp oDiv (dVar 7) (dC (.int 512))) (dC (.int 6))) (dOp oMod (dOp oDiv (dVar 7) (dC (.int 4096))) (dC (.int 2))))))
    (sDrop (dMt "list" mAppend (dVar 3) (aCons (dTup (aCons (dOp oIx (dVar 2) (dVar 4)) (aCons (dVar 8) (aCons (dVar 5) aNil)))) aNil)))))))
def g__law_calls : DS :=
  (sSeq (sSet 3 (dLstC aNil))
    (sSeq (sSet 4 (dOp oMod (dCall f__law_draw (aCons (dVar 0) (aCons (dVar 1) aNil))) (dBi bLen (aCons (dVar 2) aNil))))
    (sSeq (sSet 5 (dOp oMod (dOp oDiv (dCall f__law_draw (aCons (dVar 0) (aCons (dVar 1) aNil))) (dC (.int 8))) (dC (.int 600))))
    (sSeq (sFor (itR1 (aCons (dOp oAdd (dC (.int 2)) (dOp oMod (dOp oDiv (dCall f__law_draw (aCons (dVar 0) (aCons (dVar 1) aNil))) (dC (.int 8192))) (dC (.int 5)))) aNil)) (tgN 6) g__law_calls_b1)
    (sSeq (sFrz 3) (sRet (dVar 3)))))))
def f__law_calls : List D → Sto → Res D := mkF 9 3 g__law_calls
theorem sc__law_calls : FnScope N__law_calls ["_law_script", "_law_k", "_law_names_here"] (defScope s__law_calls) := ⟨rfl, rfl, rfl, by decide +kernel, rfl, by decide +kernel, by decide +kernel⟩
section
variable {P : Program} {w : World} {K : PySem.W.Frag} {mg : Str → Option Value} {base : Heap}
theorem b__law_calls (Tx : Txt K mg) (c__law_draw : Cl (tb K) P w mg base "_law_draw" 1 2 f__law_draw) {f : Addr} (cdv : Value) (A : Around) (outer : List PySem.Env) (s : Shared) (H : Hp) (E : XK) (hr : Room 1 (A.deeper (PyProof.Rows.envOfC "_law_calls" (defScope s__law_calls) s.heap.objs.size f cdv))) : PDb (tb K) (cxOf (L2.CX P w) P w (tb K).K mg base N__law_calls "_law_calls" (defScope s__law_calls) f cdv A outer s H E) (defBody s__law_calls) (g__law_calls) :=
  (b_cons (s_set 3 sc__law_calls.nd (d_lstC a_nil))
    (b_cons (s_set 4 sc__law_calls.nd (d_op (fun _ _ => op_mod) do_mod (d_call c__law_draw (a_cons (d_var 0) (a_cons (d_var 1) a_nil)) hr (by omega)) (d_callB (fun _ _ => call_len) db_len Tx.f_len (by decide +kernel) (a_cons (d_var 2) a_nil))))
    (b_cons (s_set 5 sc__law_calls.nd (d_op (fun _ _ => op_mod) do_mod (d_op (fun _ _ => op_fdiv) do_div (d_call c__law_draw (a_cons (d_var 0) (a_cons (d_var 1) a_nil)) hr (by omega)) d_int) d_int))
    (b_cons (s_for (i_range1 Tx.f_range (a_cons (d_op (fun _ _ => op_addA) do_add d_int (d_op (fun _ _ => op_mod) do_mod (d_op (fun _ _ => op_fdiv) do_div (d_call c__law_draw (a_cons (d_var 0) (a_cons (d_var 1) a_nil)) hr (by omega)) d_int) d_int)) a_nil)) (g_name 6 sc__law_calls.nd) (b_cons (s_set 7 sc__law_calls.nd (d_call c__law_draw (a_cons (d_var 0) (a_cons (d_op (fun _ _ => op_addA) do_add (d_op (fun _ _ => op_addA) do_add (d_var 1) d_int) (d_var 6)) a_nil)) hr (by omega)))
    (b_cons (s_set 4 sc__law_calls.nd (d_op (fun _ _ => op_mod) do_mod (d_op (fun _ _ => op_addA) do_add (d_op (fun _ _ => op_addA) do_add (d_var 4) d_int) (d_op (fun _ _ => op_mod) do_mod (d_var 7) (d_op (fun _ _ => op_sub) do_sub (d_callB (fun _ _ => call_len) db_len Tx.f_len (by decide +kernel) (a_cons (d_var 2) a_nil)) d_int))) (d_callB (fun _ _ => call_len) db_len Tx.f_len (by decide +kernel) (a_cons (d_var 2) a_nil))))
    (b_cons (s_set 8 sc__law_calls.nd (d_op (fun _ _ => op_addA) do_add (d_op (fun _ _ => op_addA) do_add (d_var 5) d_int) (d_op (fun _ _ => op_mod) do_mod (d_op (fun _ _ => op_fdiv) do_div (d_var 7) d_int) d_int)))
    (b_cons (s_set 5 sc__law_calls.nd (d_op (fun _ _ => op_addA) do_add (d_var 8) (d_op (fun _ _ => op_mulA) do_mulA (d_op (fun _ _ => op_mod) do_mod (d_op (fun _ _ => op_fdiv) do_div (d_var 7) d_int) d_int) (d_op (fun _ _ => op_mod) do_mod (d_op (fun _ _ => op_fdiv) do_div (d_var 7) d_int) d_int))))
    (b_one (s_expr (d_mt PySem.F.plainAttrs_list PySem.F.slot_list_append PySem.F.type_list_append (fun _ _ => mt_append) dm_append (d_var 3) (a_cons (d_tup (a_cons (d_ix (d_var 2) (d_var 4)) (a_cons (d_var 8) (a_cons (d_var 5) a_nil)))) a_nil)))))))))
    (b_frz 3 (b_one (s_ret (d_var 3))))))))
end
/-! ### _law_zones -/
abbrev N__law_zones : List Str := ["_law_bits_here", "_law_zone"]
def g__law_zones : DS :=
  (sRet (dLc (itR2 (aCons (dC (.int 1)) (aCons (dC (.int 7)) aNil))) (tgN 1) (tst (dOp oEq (dOp oMod (dOp oDiv (dVar 0) (dOp oIx (dLst (aCons (dC (.int 1)) (aCons (dC (.int 2)) (aCons (dC (.int 4)) (aCons (dC (.int 8)) (aCons (dC (.int 16)) (aCons (dC (.int 32)) aNil))))))) (dOp oSub (dVar 1) (dC (.int 1))))) (dC (.int 2))) (dC (.int 1)))) (dVar 1) [1]))
def f__law_zones : List D → Sto → Res D := mkF 2 1 g__law_zones
theorem sc__law_zones : FnScope N__law_zones ["_law_bits_here"] (defScope s__law_zones) := ⟨rfl, rfl, rfl, by decide +kernel, rfl, by decide +kernel, by decide +kernel⟩
section
variable {P : Program} {w : World} {K : PySem.W.Frag} {mg : Str → Option Value} {base : Heap}
theorem b__law_zones (Tx : Txt K mg)  {f : Addr} (cdv : Value) (A : Around) (outer : List PySem.Env) (s : Shared) (H : Hp) (E : XK) (hr : Room 0 (A.deeper (PyProof.Rows.envOfC "_law_zones" (defScope s__law_zones) s.heap.objs.size f cdv))) : PDb (tb K) (cxOf (L2.CX P w) P w (tb K).K mg base N__law_zones "_law_zones" (defScope s__law_zones) f cdv A outer s H E) (defBody s__law_zones) (g__law_zones) :=
  (b_one (s_ret (d_lc (own := [("_law_zone", 1)]) sc__law_zones.nd (i_range2 Tx.f_range (a_cons d_int (a_cons d_int a_nil))) (blkOk_by (sc := defScope s__law_zones) (N := N__law_zones) (by decide +kernel)) (fun _ _ _ _ _ => (g_name 1 sc__law_zones.nd)) (fun _ _ _ _ _ => ts_one (t_cmp (fun _ _ => op_eqA hr.units) do_eq (d_op (fun _ _ => op_mod) do_mod (d_op (fun _ _ => op_fdiv) do_div (d_var 0) (d_ix (d_lst (a_cons d_int (a_cons d_int (a_cons d_int (a_cons d_int (a_cons d_int (a_cons d_int a_nil))))))) (d_op (fun _ _ => op_sub) do_sub (d_var 1) d_int))) d_int) d_int (nomark _))) (fun _ _ _ _ _ => (d_var 1)))))
end
/-! ### _law_tickets -/
abbrev N__law_tickets : List Str := ["_law_script", "_law_k", "_law_many", "_law_found", "_law_j", "_law_name", "_law_number", "_law_price", "_law_lasts", "_law_bits_here"]
def g__law_tickets_b1 : DS :=
  (sSeq (sSet 6 (dCall f__law_draw (aCons (dVar 0) (aCons (dOp oAdd (dOp oAdd (dVar 1) (dC (.int 1))) (dVar 4)) aNil))))
    (sSeq (sSet 7 (dOp oMod (dVar 6) (dOp oIx (dLst (aCons (dC (.int 4)) (aCons (dC (.int 101)) (aCons (dC (.int 101)) (aCons (dC (.int 10001)) aNil))))) (dOp oMod (dOp oDiv (dVar 6) (dC (.int 16))) (dC (.int 4))))))
    (sSeq (sSet 8 (dOp oAdd (dC (.int 1)) (dOp oMod (dOp oDiv (dVar 6) (dC (.int 64))) (dOp oIx (dLst (aCons (dC (.int 60)) (aCons (dC (.int 240)) (aCons (dC (.int 1440)) aNil)))) (dOp oMod (dOp oDiv (dVar 6) (dC (.int 4096))) (dC (.int 3)))))))
    (sSeq (sSet 9 (dOp oIx (dLst (aCons (dC (.int 63)) (aCons (dOp oAdd (dC (.int 1)) (dOp oMod (dOp oDiv (dVar 6) (dC (.int 1024))) (dC (.int 63)))) aNil))) (dOp oMod (dOp oDiv (dVar 6) (dC (.int 512))) (dC (.int 2)))))
    (sDrop (dMt "list" mAppend (dVar 3) (aCons (dTup (aCons (dVar 5) (aCons (dVar 7) (aCons (dVar 8) (aCons (dCall f__law_zones (aCons (dVar 9) aNil)) aNil))))) aNil)))))))
def g__law_tickets : DS :=
  (sSeq (sSet 3 (dLstC aNil))
    (sSeq (sFor (itEnum (aCons (dCall f__law_names (aCons (dVar 0) (aCons (dVar 1) (aCons (dVar 2) aNil)))) aNil)) (tgT [(tgN 4), (tgN 5)]) g__law_tickets_b1)
    (sSeq (sFrz 3) (sRet (dVar 3)))))
def f__law_tickets : List D → Sto → Res D := mkF 10 3 g__law_tickets
theorem sc__law_tickets : FnScope N__law_tickets ["_law_script", "_law_k", "_law_many"] (defScope s__law_tickets) := ⟨rfl, rfl, rfl, by decide +kernel, rfl, by decide +kernel, by decide +kernel⟩
section
variable {P : Program} {w : World} {K : PySem.W.Frag} {mg : Str → Option Value} {base : Heap}
theorem b__law_tickets (Tx : Txt K mg) (c__law_names : Cl (tb K) P w mg base "_law_names" 2 3 f__law_names) (c__law_draw : Cl (tb K) P w mg base "_law_draw" 1 2 f__law_draw) (c__law_zones : Cl (tb K) P w mg base "_law_zones" 1 1 f__law_zones) {f : Addr} (cdv : Value) (A : Around) (outer : List PySem.Env) (s : Shared) (H : Hp) (E : XK) (hr : Room 2 (A.deeper (PyProof.Rows.envOfC "_law_tickets" (defScope s__law_tickets) s.heap.objs.size f cdv))) : PDb (tb K) (cxOf (L2.CX P w) P w (tb K).K mg base N__law_tickets "_law_tickets" (defScope s__law_tickets) f cdv A outer s H E) (defBody s__law_tickets) (g__law_tickets) :=
  (b_cons (s_set 3 sc__law_tickets.nd (d_lstC a_nil))
    (b_cons (s_for (i_enum Tx.f_enumerate (a_cons (d_call c__law_names (a_cons (d_var 0) (a_cons (d_var 1) (a_cons (d_var 2) a_nil))) hr (by omega)) a_nil)) (g_tup (gs_cons (g_name 4 sc__law_tickets.nd) (gs_cons (g_name 5 sc__law_tickets.nd) gs_nil))) (b_cons (s_set 6 sc__law_tickets.nd (d_call c__law_draw (a_cons (d_var 0) (a_cons (d_op (fun _ _ => op_addA) do_add (d_op (fun _ _ => op_addA) do_add (d_var 1) d_int) (d_var 4)) a_nil)) hr (by omega)))
    (b_cons (s_set 7 sc__law_tickets.nd (d_op (fun _ _ => op_mod) do_mod (d_var 6) (d_ix (d_lst (a_cons d_int (a_cons d_int (a_cons d_int (a_cons d_int a_nil))))) (d_op (fun _ _ => op_mod) do_mod (d_op (fun _ _ => op_fdiv) do_div (d_var 6) d_int) d_int))))
    (b_cons (s_set 8 sc__law_tickets.nd (d_op (fun _ _ => op_addA) do_add d_int (d_op (fun _ _ => op_mod) do_mod (d_op (fun _ _ => op_fdiv) do_div (d_var 6) d_int) (d_ix (d_lst (a_cons d_int (a_cons d_int (a_cons d_int a_nil)))) (d_op (fun _ _ => op_mod) do_mod (d_op (fun _ _ => op_fdiv) do_div (d_var 6) d_int) d_int)))))
    (b_cons (s_set 9 sc__law_tickets.nd (d_ix (d_lst (a_cons d_int (a_cons (d_op (fun _ _ => op_addA) do_add d_int (d_op (fun _ _ => op_mod) do_mod (d_op (fun _ _ => op_fdiv) do_div (d_var 6) d_int) d_int)) a_nil))) (d_op (fun _ _ => op_mod) do_mod (d_op (fun _ _ => op_fdiv) do_div (d_var 6) d_int) d_int)))
    (b_one (s_expr (d_mt PySem.F.plainAttrs_list PySem.F.slot_list_append PySem.F.type_list_append (fun _ _ => mt_append) dm_append (d_var 3) (a_cons (d_tup (a_cons (d_var 5) (a_cons (d_var 7) (a_cons (d_var 8) (a_cons (d_call c__law_zones (a_cons (d_var 9) a_nil) hr (by omega)) a_nil))))) a_nil)))))))))
    (b_frz 3 (b_one (s_ret (d_var 3))))))
end
/-! ### _law_bits -/
abbrev N__law_bits : List Str := ["_law_zones_here", "_law_zone"]
def g__law_bits : DS :=
  (sRet (dBi bSum (aCons (dLc (itAny (dVar 0)) (tgN 1) cYes (dOp oIx (dLst (aCons (dC (.int 1)) (aCons (dC (.int 2)) (aCons (dC (.int 4)) (aCons (dC (.int 8)) (aCons (dC (.int 16)) (aCons (dC (.int 32)) aNil))))))) (dOp oSub (dVar 1) (dC (.int 1)))) [1]) aNil)))
def f__law_bits : List D → Sto → Res D := mkF 2 1 g__law_bits
theorem sc__law_bits : FnScope N__law_bits ["_law_zones_here"] (defScope s__law_bits) := ⟨rfl, rfl, rfl, by decide +kernel, rfl, by decide +kernel, by decide +kernel⟩
section
variable {P : Program} {w : World} {K : PySem.W.Frag} {mg : Str → Option Value} {base : Heap}
theorem b__law_bits (Tx : Txt K mg)  {f : Addr} (cdv : Value) (A : Around) (outer : List PySem.Env) (s : Shared) (H : Hp) (E : XK) (hr : Room 0 (A.deeper (PyProof.Rows.envOfC "_law_bits" (defScope s__law_bits) s.heap.objs.size f cdv))) : PDb (tb K) (cxOf (L2.CX P w) P w (tb K).K mg base N__law_bits "_law_bits" (defScope s__law_bits) f cdv A outer s H E) (defBody s__law_bits) (g__law_bits) :=
  (b_one (s_ret (d_callB (fun _ _ => cr_sum rfl) db_sum Tx.f_sum (by decide +kernel) (a_cons (d_lc (own := [("_law_zone", 1)]) sc__law_bits.nd (i_any (d_var 0)) (blkOk_by (sc := defScope s__law_bits) (N := N__law_bits) (by decide +kernel)) (fun _ _ _ _ _ => (g_name 1 sc__law_bits.nd)) (fun _ _ _ _ _ => ts_nil) (fun _ _ _ _ _ => (d_ix (d_lst (a_cons d_int (a_cons d_int (a_cons d_int (a_cons d_int (a_cons d_int (a_cons d_int a_nil))))))) (d_op (fun _ _ => op_sub) do_sub (d_var 1) d_int)))) a_nil))))
end
/-! ### _law_net -/
abbrev N__law_net : List Str := ["_law_script", "_law_names_here", "_law_zones_here", "_law_tickets_here", "_law_net_here", "_law_k", "_law_name", "_law_price", "_law_lasts", "_law_its", "_law_trips"]
def g__law_net_b1 : DS :=
  (sDrop (dMeth 5 [(19, f_Net_add_stop)] (dVar 4) (aCons (dVar 6) (aCons (dOp oIx (dVar 2) (dVar 5)) (aCons (dC (.int 3)) aNil)))))
def g__law_net_b2 : DS :=
  (sDrop (dMeth 5 [(19, f_Net_add_ticket)] (dVar 4) (aCons (dVar 6) (aCons (dVar 7) (aCons (dVar 8) (aCons (dBi bList (aCons (dVar 9) aNil)) aNil))))))
def g__law_net_b3 : DS :=
  (sDrop (dMeth 5 [(19, f_Net_add_trip)] (dVar 4) (aCons (dVar 6) (aCons (dC (.str [97, 108, 108])) (aCons (dCall f__law_calls (aCons (dVar 0) (aCons (dOp oAdd (dC (.int 50)) (dOp oMulA (dC (.int 8)) (dVar 5))) (aCons (dVar 1) aNil)))) aNil)))))
def g__law_net : DS :=
  (sSeq (sSet 4 (dCall (mkO 19 f_Net___init__) aNil))
    (sSeq (sFor (itEnum (aCons (dVar 1) aNil)) (tgT [(tgN 5), (tgN 6)]) g__law_net_b1)
    (sSeq (sDrop (dMeth 5 [(19, f_Net_add_rule)] (dVar 4) (aCons (dC (.str [97, 108, 108])) (aCons (dC (.obj 18 [] [])) aNil))))
    (sSeq (sFor (itAny (dVar 3)) (tgT [(tgN 6), (tgN 7), (tgN 8), (tgN 9)]) g__law_net_b2)
    (sSeq (sSet 10 (dCall f__law_names (aCons (dVar 0) (aCons (dC (.int 40)) (aCons (dOp oAdd (dC (.int 1)) (dOp oMod (dCall f__law_draw (aCons (dVar 0) (aCons (dC (.int 41)) aNil))) (dC (.int 3)))) aNil)))))
    (sSeq (sFor (itEnum (aCons (dVar 10) aNil)) (tgT [(tgN 5), (tgN 6)]) g__law_net_b3)
    (sRet (dTup (aCons (dVar 4) (aCons (dVar 10) aNil))))))))))
def f__law_net : List D → Sto → Res D := mkF 11 4 g__law_net
theorem sc__law_net : FnScope N__law_net ["_law_script", "_law_names_here", "_law_zones_here", "_law_tickets_here"] (defScope s__law_net) := ⟨rfl, rfl, rfl, by decide +kernel, rfl, by decide +kernel, by decide +kernel⟩
section
variable {P : Program} {w : World} {K : PySem.W.Frag} {mg : Str → Option Value} {base : Heap}
theorem b__law_net (Tx : Txt K mg) (c__law_draw : Cl (tb K) P w mg base "_law_draw" 1 2 f__law_draw) (c__law_names : Cl (tb K) P w mg base "_law_names" 2 3 f__law_names) (c__law_calls : Cl (tb K) P w mg base "_law_calls" 2 3 f__law_calls) (m_Net_add_stop : Mc (tb K) P w mg base 19 "add_stop" 3 4 f_Net_add_stop) (m_Net_add_rule : Mc (tb K) P w mg base 19 "add_rule" 3 3 f_Net_add_rule) (m_Net_add_ticket : Mc (tb K) P w mg base 19 "add_ticket" 3 5 f_Net_add_ticket) (m_Net_add_trip : Mc (tb K) P w mg base 19 "add_trip" 3 4 f_Net_add_trip) (k_Net : Mkc (tb K) P w mg base 19 "Net" 1 1 f_Net___init__) {f : Addr} (cdv : Value) (A : Around) (outer : List PySem.Env) (s : Shared) (H : Hp) (E : XK) (hr : Room 3 (A.deeper (PyProof.Rows.envOfC "_law_net" (defScope s__law_net) s.heap.objs.size f cdv))) : PDb (tb K) (cxOf (L2.CX P w) P w (tb K).K mg base N__law_net "_law_net" (defScope s__law_net) f cdv A outer s H E) (defBody s__law_net) (g__law_net) :=
  (b_cons (s_set 4 sc__law_net.nd (d_make0 k_Net hr (by omega)))
    (b_cons (s_for (i_enum Tx.f_enumerate (a_cons (d_var 1) a_nil)) (g_tup (gs_cons (g_name 5 sc__law_net.nd) (gs_cons (g_name 6 sc__law_net.nd) gs_nil))) (b_one (s_expr (d_meth (nF := 5) (j := 3) (tbl := [(19, f_Net_add_stop)]) ⟨⟨m_Net_add_stop.up (by omega), rfl⟩, trivial⟩ nm_add_stop (d_var 4) (a_cons (d_var 6) (a_cons (d_ix (d_var 2) (d_var 5)) (a_cons d_int a_nil))) hr))))
    (b_cons (s_expr (d_meth (nF := 5) (j := 3) (tbl := [(19, f_Net_add_rule)]) ⟨⟨m_Net_add_rule.up (by omega), rfl⟩, trivial⟩ nm_add_rule (d_var 4) (a_cons (d_str [97, 108, 108] (by decide +kernel)) (a_cons (d_mk0 18 Tx.m0_Rule Tx.c_Rule) a_nil)) hr))
    (b_cons (s_for (i_any (d_var 3)) (g_tup (gs_cons (g_name 6 sc__law_net.nd) (gs_cons (g_name 7 sc__law_net.nd) (gs_cons (g_name 8 sc__law_net.nd) (gs_cons (g_name 9 sc__law_net.nd) gs_nil))))) (b_one (s_expr (d_meth (nF := 5) (j := 3) (tbl := [(19, f_Net_add_ticket)]) ⟨⟨m_Net_add_ticket.up (by omega), rfl⟩, trivial⟩ nm_add_ticket (d_var 4) (a_cons (d_var 6) (a_cons (d_var 7) (a_cons (d_var 8) (a_cons (d_callT (fun _ _ => call_list_of) db_list Tx.f_list (by decide +kernel) (a_cons (d_var 9) a_nil)) a_nil)))) hr))))
    (b_cons (s_set 10 sc__law_net.nd (d_call c__law_names (a_cons (d_var 0) (a_cons d_int (a_cons (d_op (fun _ _ => op_addA) do_add d_int (d_op (fun _ _ => op_mod) do_mod (d_call c__law_draw (a_cons (d_var 0) (a_cons d_int a_nil)) hr (by omega)) d_int)) a_nil))) hr (by omega)))
    (b_cons (s_for (i_enum Tx.f_enumerate (a_cons (d_var 10) a_nil)) (g_tup (gs_cons (g_name 5 sc__law_net.nd) (gs_cons (g_name 6 sc__law_net.nd) gs_nil))) (b_one (s_expr (d_meth (nF := 5) (j := 3) (tbl := [(19, f_Net_add_trip)]) ⟨⟨m_Net_add_trip.up (by omega), rfl⟩, trivial⟩ nm_add_trip (d_var 4) (a_cons (d_var 6) (a_cons (d_str [97, 108, 108] (by decide +kernel)) (a_cons (d_call c__law_calls (a_cons (d_var 0) (a_cons (d_op (fun _ _ => op_addA) do_add d_int (d_op (fun _ _ => op_mulA) do_mulA d_int (d_var 5))) (a_cons (d_var 1) a_nil))) hr (by omega)) a_nil))) hr))))
    (b_one (s_ret (d_tup (a_cons (d_var 4) (a_cons (d_var 10) a_nil)))))))))))
end
/-! ### _law_refused -/
abbrev N__law_refused : List Str := ["_law_way", "_law_net_here", "_law_name", "_law_board", "_law_off", "_law_caught", "_law_e"]
def g__law_refused_b1 : DS :=
  (sIf (tst (dOp oEq (dVar 0) (dC (.int 0)))) (sDrop (dCall f_zones_of (aCons (dVar 1) (aCons (dVar 2) (aCons (dVar 3) (aCons (dVar 4) aNil)))))) (sDrop (dCall f_fits (aCons (dVar 1) (aCons (dVar 2) (aCons (dC (.int 1)) aNil))))))
def g__law_refused : DS :=
  (sSeq (sSet 5 (dC .non))
    (sSeq (sTry (ancO parT) 0 (some 6) g__law_refused_b1 (sSet 5 (dVar 6)))
    (sRet (dIfE (tst (dOp (oIs false) (dVar 5) (dC .non))) (dLst aNil) (dCall f__law_word (aCons (dVar 5) aNil))))))
def f__law_refused : List D → Sto → Res D := mkF 7 5 g__law_refused
theorem sc__law_refused : FnScope N__law_refused ["_law_way", "_law_net_here", "_law_name", "_law_board", "_law_off"] (defScope s__law_refused) := ⟨rfl, rfl, rfl, by decide +kernel, rfl, by decide +kernel, by decide +kernel⟩
section
variable {P : Program} {w : World} {K : PySem.W.Frag} {mg : Str → Option Value} {base : Heap}
theorem b__law_refused (Tx : Txt K mg) (c_zones_of : Cl (tb K) P w mg base "zones_of" 4 4 f_zones_of) (c_fits : Cl (tb K) P w mg base "fits" 3 3 f_fits) (c__law_word : Cl (tb K) P w mg base "_law_word" 1 1 f__law_word) {f : Addr} (cdv : Value) (A : Around) (outer : List PySem.Env) (s : Shared) (H : Hp) (E : XK) (hr : Room 4 (A.deeper (PyProof.Rows.envOfC "_law_refused" (defScope s__law_refused) s.heap.objs.size f cdv))) : PDb (tb K) (cxOf (L2.CX P w) P w (tb K).K mg base N__law_refused "_law_refused" (defScope s__law_refused) f cdv A outer s H E) (defBody s__law_refused) (g__law_refused) :=
  (b_cons (s_set 5 sc__law_refused.nd d_non)
    (b_cons (s_tryA 0 6 Tx.xt sc__law_refused.nd Tx.c_RoadError (b_one (s_if (t_cmp (fun _ _ => op_eqA hr.units) do_eq (d_var 0) d_int (nomark _)) (b_one (s_expr (d_call c_zones_of (a_cons (d_var 1) (a_cons (d_var 2) (a_cons (d_var 3) (a_cons (d_var 4) a_nil)))) hr (by omega)))) (b_one (s_expr (d_call c_fits (a_cons (d_var 1) (a_cons (d_var 2) (a_cons d_int a_nil))) hr (by omega)))))) (fun _ _ => (b_one (s_set 5 sc__law_refused.nd (d_var 6)))))
    (b_one (s_ret (d_ifE (t_cmp (fun _ _ => op_isN) do_is (d_var 5) d_non (nomark _)) (d_lst a_nil) (d_call c__law_word (a_cons (d_var 5) a_nil) hr (by omega)))))))
end
/-! ### _law_rides_right -/
abbrev N__law_rides_right : List Str := ["_law_script", "_law_net_here", "_law_trip", "_law_k", "_law_names_here", "_law_zones_here", "_law_calls_here", "_law_board", "_law_off", "_law_met", "_law_found", "_law_number", "_law_last", "_law_odd", "_law_call"]
def g__law_rides_right_b1 : DS :=
  (sSeq (sSet 9 (dSortedSet (dLc (itAny (dSl (dVar 6) (pSome (dVar 7)) (pSome (dOp oAdd (dVar 8) (dC (.int 1)))))) (tgN 14) cYes (dOp oIx (dVar 5) (dMt "list" mIndex (dVar 4) (aCons (dOp oIx (dVar 14) (dC (.int 0))) aNil))) [14])))
    (sSeq (sSet 10 (dCall f_zones_of (aCons (dVar 1) (aCons (dVar 2) (aCons (dVar 7) (aCons (dVar 8) aNil))))))
    (sIf (tOrD (tNotD (tst (dCall f__law_whole (aCons (dVar 10) aNil)))) (tst (dOp oNe (dVar 10) (dCall f__law_bits (aCons (dVar 9) aNil))))) (sRet (dC (.bl false))) sPass)))
def g__law_rides_right_b2 : DS :=
  (sFor (itR2 (aCons (dOp oAdd (dVar 7) (dC (.int 1))) (aCons (dBi bLen (aCons (dVar 6) aNil)) aNil))) (tgN 8) g__law_rides_right_b1)
def g__law_rides_right_b3 : DS :=
  (sIf (tst (dOp oNe (dCall f__law_refused (aCons (dC (.int 0)) (aCons (dVar 1) (aCons (dVar 2) (aCons (dVar 7) (aCons (dVar 8) aNil)))))) (dLst (aCons (dC (.str [110, 117, 109, 98, 101, 114])) aNil)))) (sRet (dC (.bl false))) sPass)
def g__law_rides_right : DS :=
  (sSeq (sSet 6 (dCall f__law_calls (aCons (dVar 0) (aCons (dOp oAdd (dC (.int 50)) (dOp oMulA (dC (.int 8)) (dVar 3))) (aCons (dVar 4) aNil)))))
    (sSeq (sFor (itR1 (aCons (dOp oSub (dBi bLen (aCons (dVar 6) aNil)) (dC (.int 1))) aNil)) (tgN 7) g__law_rides_right_b2)
    (sSeq (sSet 11 (dCall f__law_draw (aCons (dVar 0) (aCons (dOp oAdd (dC (.int 80)) (dVar 3)) aNil))))
    (sSeq (sSet 12 (dOp oSub (dBi bLen (aCons (dVar 6) aNil)) (dC (.int 1))))
    (sSeq (sSet 13 (dOp oIx (dLst (aCons (dUn (fun i => -i) (dC (.int 1))) (aCons (dC (.bl true)) (aCons (dC (.bl false)) (aCons (dC .non) (aCons (dC (.str [48])) (aCons (dTup (aCons (dC (.int 1)) aNil)) (aCons (dLst (aCons (dC (.int 0)) aNil)) (aCons (dTup aNil) (aCons (dC (.dct [] [])) (aCons (dOp oPow (dC (.int 10)) (dC (.int 20))) aNil))))))))))) (dOp oMod (dVar 11) (dC (.int 10)))))
    (sSeq (sFor (itAny (dTup (aCons (dTup (aCons (dVar 13) (aCons (dVar 12) aNil))) (aCons (dTup (aCons (dVar 12) (aCons (dOp oAdd (dVar 12) (dC (.int 1))) aNil))) (aCons (dTup (aCons (dVar 12) (aCons (dVar 13) aNil))) (aCons (dTup (aCons (dC (.int 0)) (aCons (dVar 13) aNil))) (aCons (dTup (aCons (dOp oSub (dVar 12) (dC (.int 1))) (aCons (dOp oSub (dVar 12) (dC (.int 1))) aNil))) aNil))))))) (tgT [(tgN 7), (tgN 8)]) g__law_rides_right_b3)
    (sRet (dC (.bl true)))))))))
def f__law_rides_right : List D → Sto → Res D := mkF 15 6 g__law_rides_right
theorem sc__law_rides_right : FnScope N__law_rides_right ["_law_script", "_law_net_here", "_law_trip", "_law_k", "_law_names_here", "_law_zones_here"] (defScope s__law_rides_right) := ⟨rfl, rfl, rfl, by decide +kernel, rfl, by decide +kernel, by decide +kernel⟩
section
variable {P : Program} {w : World} {K : PySem.W.Frag} {mg : Str → Option Value} {base : Heap}
theorem b__law_rides_right (Tx : Txt K mg) (c__law_calls : Cl (tb K) P w mg base "_law_calls" 2 3 f__law_calls) (c_zones_of : Cl (tb K) P w mg base "zones_of" 4 4 f_zones_of) (c__law_whole : Cl (tb K) P w mg base "_law_whole" 1 1 f__law_whole) (c__law_bits : Cl (tb K) P w mg base "_law_bits" 1 1 f__law_bits) (c__law_draw : Cl (tb K) P w mg base "_law_draw" 1 2 f__law_draw) (c__law_refused : Cl (tb K) P w mg base "_law_refused" 5 5 f__law_refused) {f : Addr} (cdv : Value) (A : Around) (outer : List PySem.Env) (s : Shared) (H : Hp) (E : XK) (hr : Room 5 (A.deeper (PyProof.Rows.envOfC "_law_rides_right" (defScope s__law_rides_right) s.heap.objs.size f cdv))) : PDb (tb K) (cxOf (L2.CX P w) P w (tb K).K mg base N__law_rides_right "_law_rides_right" (defScope s__law_rides_right) f cdv A outer s H E) (defBody s__law_rides_right) (g__law_rides_right) :=
  (b_cons (s_set 6 sc__law_rides_right.nd (d_call c__law_calls (a_cons (d_var 0) (a_cons (d_op (fun _ _ => op_addA) do_add d_int (d_op (fun _ _ => op_mulA) do_mulA d_int (d_var 3))) (a_cons (d_var 4) a_nil))) hr (by omega)))
    (b_cons (s_for (i_range1 Tx.f_range (a_cons (d_op (fun _ _ => op_sub) do_sub (d_callB (fun _ _ => call_len) db_len Tx.f_len (by decide +kernel) (a_cons (d_var 6) a_nil)) d_int) a_nil)) (g_name 7 sc__law_rides_right.nd) (b_one (s_for (i_range2 Tx.f_range (a_cons (d_op (fun _ _ => op_addA) do_add (d_var 7) d_int) (a_cons (d_callB (fun _ _ => call_len) db_len Tx.f_len (by decide +kernel) (a_cons (d_var 6) a_nil)) a_nil))) (g_name 8 sc__law_rides_right.nd) (b_cons (s_set 9 sc__law_rides_right.nd (d_sortedSet Tx.f_sorted Tx.f_set (d_lc (own := [("_law_call", 14)]) sc__law_rides_right.nd (i_any (d_sl (d_var 6) (o_some (d_var 7)) (o_some (d_op (fun _ _ => op_addA) do_add (d_var 8) d_int)))) (blkOk_by (sc := defScope s__law_rides_right) (N := N__law_rides_right) (by decide +kernel)) (fun _ _ _ _ _ => (g_name 14 sc__law_rides_right.nd)) (fun _ _ _ _ _ => ts_nil) (fun _ _ _ _ _ => (d_ix (d_var 5) (d_mt PySem.F.plainAttrs_list PySem.F.slot_list_index PySem.F.type_list_index (fun _ _ => mt_index) dm_index (d_var 4) (a_cons (d_ix (d_var 14) d_int) a_nil)))))))
    (b_cons (s_set 10 sc__law_rides_right.nd (d_call c_zones_of (a_cons (d_var 1) (a_cons (d_var 2) (a_cons (d_var 7) (a_cons (d_var 8) a_nil)))) hr (by omega)))
    (b_one (s_if (PDw.t (w_or (t_not (t_val (d_call c__law_whole (a_cons (d_var 10) a_nil) hr (by omega)))) (w_or1 (t_cmp (fun _ _ => op_neA hr.units) do_ne (d_var 10) (d_call c__law_bits (a_cons (d_var 9) a_nil) hr (by omega)) (nomark _))))) (b_one (s_ret d_bl)) b_nil)))))))
    (b_cons (s_set 11 sc__law_rides_right.nd (d_call c__law_draw (a_cons (d_var 0) (a_cons (d_op (fun _ _ => op_addA) do_add d_int (d_var 3)) a_nil)) hr (by omega)))
    (b_cons (s_set 12 sc__law_rides_right.nd (d_op (fun _ _ => op_sub) do_sub (d_callB (fun _ _ => call_len) db_len Tx.f_len (by decide +kernel) (a_cons (d_var 6) a_nil)) d_int))
    (b_cons (s_set 13 sc__law_rides_right.nd (d_ix (d_lst (a_cons (d_neg d_int) (a_cons d_bl (a_cons d_bl (a_cons d_non (a_cons (d_str [48] (by decide +kernel)) (a_cons (d_tup (a_cons d_int a_nil)) (a_cons (d_lst (a_cons d_int a_nil)) (a_cons (d_tup a_nil) (a_cons d_dct0 (a_cons (d_op (fun _ _ => op_pow) do_pow d_int d_int) a_nil))))))))))) (d_op (fun _ _ => op_mod) do_mod (d_var 11) d_int)))
    (b_cons (s_for (i_any (d_tup (a_cons (d_tup (a_cons (d_var 13) (a_cons (d_var 12) a_nil))) (a_cons (d_tup (a_cons (d_var 12) (a_cons (d_op (fun _ _ => op_addA) do_add (d_var 12) d_int) a_nil))) (a_cons (d_tup (a_cons (d_var 12) (a_cons (d_var 13) a_nil))) (a_cons (d_tup (a_cons d_int (a_cons (d_var 13) a_nil))) (a_cons (d_tup (a_cons (d_op (fun _ _ => op_sub) do_sub (d_var 12) d_int) (a_cons (d_op (fun _ _ => op_sub) do_sub (d_var 12) d_int) a_nil))) a_nil))))))) (g_tup (gs_cons (g_name 7 sc__law_rides_right.nd) (gs_cons (g_name 8 sc__law_rides_right.nd) gs_nil))) (b_one (s_if (t_cmp (fun _ _ => op_neA hr.units) do_ne (d_call c__law_refused (a_cons d_int (a_cons (d_var 1) (a_cons (d_var 2) (a_cons (d_var 7) (a_cons (d_var 8) a_nil))))) hr (by omega)) (d_lst (a_cons (d_str [110, 117, 109, 98, 101, 114] (by decide +kernel)) a_nil)) (nomark _)) (b_one (s_ret d_bl)) b_nil)))
    (b_one (s_ret d_bl))))))))
end
/-! ### law -/
abbrev N_law : List Str := ["_law_script", "_law_names_here", "_law_zones_here", "_law_tickets_here", "_law_net_here", "_law_trips", "_law_k", "_law_trip", "_law_number", "_law_some", "_law_handed", "_law_found", "_law_more", "_law_wanted", "_law_ticket", "_law_left", "_law_odd", "_law_zone"]
def g_law_b1 : DS :=
  (sIf (tNotD (tst (dCall f__law_rides_right (aCons (dVar 0) (aCons (dVar 4) (aCons (dVar 7) (aCons (dVar 6) (aCons (dVar 1) (aCons (dVar 2) aNil))))))))) (sRet (dC (.bl false))) sPass)
def g_law_b2 : DS :=
  (sSeq (sSet 11 (dCall f_fits (aCons (dVar 4) (aCons (dOp oIx (dVar 14) (dC (.int 0))) (aCons (dCall f__law_bits (aCons (dVar 13) aNil)) aNil)))))
    (sSeq (sSet 15 (dLc (itAny (dVar 13)) (tgN 17) (tst (dOp (oInA true) (dVar 17) (dOp oIx (dVar 14) (dC (.int 3))))) (dVar 17) [17]))
    (sIf (tOrD (tNotD (tst (dBi (bIsO parT parA csT) (aCons (dVar 11) (aCons (dC (.ty "bool")) aNil))))) (tst (dOp oNe (dVar 11) (dOp oEq (dVar 15) (dLst aNil))))) (sRet (dC (.bl false))) sPass)))
def g_law_b3 : DS :=
  (sSeq (sSet 12 (dCall f__law_draw (aCons (dVar 0) (aCons (dOp oAdd (dC (.int 12)) (dVar 6)) aNil))))
    (sSeq (sSet 13 (dOrT (dSl (dCall f__law_zones (aCons (dOp oAdd (dC (.int 1)) (dOp oMod (dVar 12) (dC (.int 63)))) aNil)) (pSome (dOp oMod (dOp oDiv (dVar 12) (dC (.int 64))) (dC (.int 4)))) pNone) (dLst (aCons (dOp oAdd (dC (.int 1)) (dOp oMod (dOp oDiv (dVar 12) (dC (.int 256))) (dC (.int 6)))) aNil))))
    (sFor (itAny (dVar 3)) (tgN 14) g_law_b2)))
def g_law : DS :=
  (sSeq (sSet 1 (dCall f__law_names (aCons (dVar 0) (aCons (dC (.int 0)) (aCons (dOp oAdd (dC (.int 2)) (dOp oMod (dCall f__law_draw (aCons (dVar 0) (aCons (dC (.int 1)) aNil))) (dC (.int 4)))) aNil)))))
    (sSeq (sSet 2 (dLc (itR1 (aCons (dBi bLen (aCons (dVar 1) aNil)) aNil)) (tgN 6) cYes (dOp oAdd (dC (.int 1)) (dOp oMod (dCall f__law_draw (aCons (dVar 0) (aCons (dOp oAdd (dC (.int 2)) (dVar 6)) aNil))) (dC (.int 6)))) [6]))
    (sSeq (sSet 3 (dCall f__law_tickets (aCons (dVar 0) (aCons (dC (.int 20)) (aCons (dOp oMod (dCall f__law_draw (aCons (dVar 0) (aCons (dC (.int 10)) aNil))) (dC (.int 4))) aNil)))))
    (sSeq (sAsg (dCall f__law_net (aCons (dVar 0) (aCons (dVar 1) (aCons (dVar 2) (aCons (dVar 3) aNil))))) (tgT [(tgN 4), (tgN 5)]))
    (sSeq (sFor (itEnum (aCons (dVar 5) aNil)) (tgT [(tgN 6), (tgN 7)]) g_law_b1)
    (sSeq (sSet 8 (dCall f__law_draw (aCons (dVar 0) (aCons (dC (.int 11)) aNil))))
    (sSeq (sSet 9 (dCall f__law_zones (aCons (dOp oAdd (dC (.int 1)) (dOp oMod (dVar 8) (dC (.int 63)))) aNil)))
    (sSeq (sSet 10 (dBi bList (aCons (dVar 9) aNil)))
    (sSeq (sSet 11 (dCall f_zone_bits (aCons (dVar 10) aNil)))
    (sSeq (sIf (tOrD (tNotD (tst (dCall f__law_whole (aCons (dVar 11) aNil)))) (tOrD (tst (dOp oNe (dVar 11) (dCall f__law_bits (aCons (dVar 9) aNil)))) (tst (dOp oNe (dVar 10) (dVar 9))))) (sRet (dC (.bl false))) sPass)
    (sSeq (sFor (itR1 (aCons (dC (.int 4)) aNil)) (tgN 6) g_law_b3)
    (sSeq (sSet 16 (dOp oIx (dLst (aCons (dC .non) (aCons (dC (.bl true)) (aCons (dC (.int 0)) (aCons (dC (.str [])) (aCons (dC (.str [65])) (aCons (dC (.str [110, 111, 119, 104, 101, 114, 101])) (aCons (dLst (aCons (dC (.str [97])) aNil)) (aCons (dTup aNil) (aCons (dC (.dct [] [])) aNil)))))))))) (dOp oMod (dOp oDiv (dVar 8) (dC (.int 64))) (dC (.int 9)))))
    (sSeq (sIf (tst (dOp oNe (dCall f__law_refused (aCons (dC (.int 0)) (aCons (dVar 4) (aCons (dVar 16) (aCons (dC .non) (aCons (dC .non) aNil)))))) (dLst (aCons (dC (.str [116, 114, 105, 112])) aNil)))) (sRet (dC (.bl false))) sPass)
    (sRet (dOp oEq (dCall f__law_refused (aCons (dC (.int 1)) (aCons (dVar 4) (aCons (dVar 16) (aCons (dC (.int 0)) (aCons (dC (.int 0)) aNil)))))) (dLst (aCons (dC (.str [116, 105, 99, 107, 101, 116])) aNil)))))))))))))))))
def f_law : List D → Sto → Res D := mkF 18 1 g_law
theorem sc_law : FnScope N_law ["_law_script"] (defScope s_law) := ⟨rfl, rfl, rfl, by decide +kernel, rfl, by decide +kernel, by decide +kernel⟩
section
variable {P : Program} {w : World} {K : PySem.W.Frag} {mg : Str → Option Value} {base : Heap}
theorem b_law (Tx : Txt K mg) (c__law_draw : Cl (tb K) P w mg base "_law_draw" 1 2 f__law_draw) (c__law_names : Cl (tb K) P w mg base "_law_names" 2 3 f__law_names) (c__law_tickets : Cl (tb K) P w mg base "_law_tickets" 3 3 f__law_tickets) (c__law_net : Cl (tb K) P w mg base "_law_net" 4 4 f__law_net) (c__law_rides_right : Cl (tb K) P w mg base "_law_rides_right" 6 6 f__law_rides_right) (c__law_zones : Cl (tb K) P w mg base "_law_zones" 1 1 f__law_zones) (c_zone_bits : Cl (tb K) P w mg base "zone_bits" 1 1 f_zone_bits) (c__law_whole : Cl (tb K) P w mg base "_law_whole" 1 1 f__law_whole) (c__law_bits : Cl (tb K) P w mg base "_law_bits" 1 1 f__law_bits) (c_fits : Cl (tb K) P w mg base "fits" 3 3 f_fits) (c__law_refused : Cl (tb K) P w mg base "_law_refused" 5 5 f__law_refused) {f : Addr} (cdv : Value) (A : Around) (outer : List PySem.Env) (s : Shared) (H : Hp) (E : XK) (hr : Room 6 (A.deeper (PyProof.Rows.envOfC "law" (defScope s_law) s.heap.objs.size f cdv))) : PDb (tb K) (cxOf (L2.CX P w) P w (tb K).K mg base N_law "law" (defScope s_law) f cdv A outer s H E) (defBody s_law) (g_law) :=
  (b_cons (s_set 1 sc_law.nd (d_call c__law_names (a_cons (d_var 0) (a_cons d_int (a_cons (d_op (fun _ _ => op_addA) do_add d_int (d_op (fun _ _ => op_mod) do_mod (d_call c__law_draw (a_cons (d_var 0) (a_cons d_int a_nil)) hr (by omega)) d_int)) a_nil))) hr (by omega)))
    (b_cons (s_setLc 2 (own := [("_law_k", 6)]) sc_law.nd (i_range1 Tx.f_range (a_cons (d_callB (fun _ _ => call_len) db_len Tx.f_len (by decide +kernel) (a_cons (d_var 1) a_nil)) a_nil)) (blkOk_by (sc := defScope s_law) (N := N_law) (by decide +kernel)) (fun _ _ _ _ _ => (g_name 6 sc_law.nd)) (fun _ _ _ _ _ => ts_nil) (fun _ _ _ _ _ => (d_op (fun _ _ => op_addA) do_add d_int (d_op (fun _ _ => op_mod) do_mod (d_call c__law_draw (a_cons (d_var 0) (a_cons (d_op (fun _ _ => op_addA) do_add d_int (d_var 6)) a_nil)) hr (by omega)) d_int))) (sw_true rfl rfl rfl (by decide +kernel)))
    (b_cons (s_set 3 sc_law.nd (d_call c__law_tickets (a_cons (d_var 0) (a_cons d_int (a_cons (d_op (fun _ _ => op_mod) do_mod (d_call c__law_draw (a_cons (d_var 0) (a_cons d_int a_nil)) hr (by omega)) d_int) a_nil))) hr (by omega)))
    (b_cons (s_asg (d_call c__law_net (a_cons (d_var 0) (a_cons (d_var 1) (a_cons (d_var 2) (a_cons (d_var 3) a_nil)))) hr (by omega)) (g_tup (gs_cons (g_name 4 sc_law.nd) (gs_cons (g_name 5 sc_law.nd) gs_nil))))
    (b_cons (s_for (i_enum Tx.f_enumerate (a_cons (d_var 5) a_nil)) (g_tup (gs_cons (g_name 6 sc_law.nd) (gs_cons (g_name 7 sc_law.nd) gs_nil))) (b_one (s_if (t_not (t_val (d_call c__law_rides_right (a_cons (d_var 0) (a_cons (d_var 4) (a_cons (d_var 7) (a_cons (d_var 6) (a_cons (d_var 1) (a_cons (d_var 2) a_nil)))))) hr (by omega)))) (b_one (s_ret d_bl)) b_nil)))
    (b_cons (s_set 8 sc_law.nd (d_call c__law_draw (a_cons (d_var 0) (a_cons d_int a_nil)) hr (by omega)))
    (b_cons (s_set 9 sc_law.nd (d_call c__law_zones (a_cons (d_op (fun _ _ => op_addA) do_add d_int (d_op (fun _ _ => op_mod) do_mod (d_var 8) d_int)) a_nil) hr (by omega)))
    (b_cons (s_set 10 sc_law.nd (d_callT (fun _ _ => call_list_of) db_list Tx.f_list (by decide +kernel) (a_cons (d_var 9) a_nil)))
    (b_cons (s_set 11 sc_law.nd (d_call c_zone_bits (a_cons (d_var 10) a_nil) hr (by omega)))
    (b_cons (s_if (PDw.t (w_or (t_not (t_val (d_call c__law_whole (a_cons (d_var 11) a_nil) hr (by omega)))) (w_or (t_cmp (fun _ _ => op_neA hr.units) do_ne (d_var 11) (d_call c__law_bits (a_cons (d_var 9) a_nil) hr (by omega)) (nomark _)) (w_or1 (t_cmp (fun _ _ => op_neA hr.units) do_ne (d_var 10) (d_var 9) (nomark _)))))) (b_one (s_ret d_bl)) b_nil)
    (b_cons (s_for (i_range1 Tx.f_range (a_cons d_int a_nil)) (g_name 6 sc_law.nd) (b_cons (s_set 12 sc_law.nd (d_call c__law_draw (a_cons (d_var 0) (a_cons (d_op (fun _ _ => op_addA) do_add d_int (d_var 6)) a_nil)) hr (by omega)))
    (b_cons (s_set 13 sc_law.nd (d_orT (d_sl (d_call c__law_zones (a_cons (d_op (fun _ _ => op_addA) do_add d_int (d_op (fun _ _ => op_mod) do_mod (d_var 12) d_int)) a_nil) hr (by omega)) (o_some (d_op (fun _ _ => op_mod) do_mod (d_op (fun _ _ => op_fdiv) do_div (d_var 12) d_int) d_int)) o_none) (d_one (d_lst (a_cons (d_op (fun _ _ => op_addA) do_add d_int (d_op (fun _ _ => op_mod) do_mod (d_op (fun _ _ => op_fdiv) do_div (d_var 12) d_int) d_int)) a_nil)))))
    (b_one (s_for (i_any (d_var 3)) (g_name 14 sc_law.nd) (b_cons (s_set 11 sc_law.nd (d_call c_fits (a_cons (d_var 4) (a_cons (d_ix (d_var 14) d_int) (a_cons (d_call c__law_bits (a_cons (d_var 13) a_nil) hr (by omega)) a_nil))) hr (by omega)))
    (b_cons (s_setLc 15 (own := [("_law_zone", 17)]) sc_law.nd (i_any (d_var 13)) (blkOk_by (sc := defScope s_law) (N := N_law) (by decide +kernel)) (fun _ _ _ _ _ => (g_name 17 sc_law.nd)) (fun _ _ _ _ _ => ts_one (t_cmp (fun _ _ => op_notInA) do_notInA (d_var 17) (d_ix (d_var 14) d_int) (by rfl))) (fun _ _ _ _ _ => (d_var 17)) (sw_true rfl rfl rfl (by decide +kernel)))
    (b_one (s_if (PDw.t (w_or (t_not (t_val (d_callB (fun _ _ => call_isA) (db_isO Tx.xt Tx.ob Tx.ki) Tx.f_isinstance (by decide +kernel) (a_cons (d_var 11) (a_cons (d_ty "bool" Tx.f_bool (by decide +kernel)) a_nil))))) (w_or1 (t_cmp (fun _ _ => op_neA hr.units) do_ne (d_var 11) (d_cmp (fun _ _ => op_eqA hr.units) do_eq (d_var 15) (d_lst a_nil) (nomark _)) (nomark _))))) (b_one (s_ret d_bl)) b_nil)))))))))
    (b_cons (s_set 16 sc_law.nd (d_ix (d_lst (a_cons d_non (a_cons d_bl (a_cons d_int (a_cons (d_str [] (by decide +kernel)) (a_cons (d_str [65] (by decide +kernel)) (a_cons (d_str [110, 111, 119, 104, 101, 114, 101] (by decide +kernel)) (a_cons (d_lst (a_cons (d_str [97] (by decide +kernel)) a_nil)) (a_cons (d_tup a_nil) (a_cons d_dct0 a_nil)))))))))) (d_op (fun _ _ => op_mod) do_mod (d_op (fun _ _ => op_fdiv) do_div (d_var 8) d_int) d_int)))
    (b_cons (s_if (t_cmp (fun _ _ => op_neA hr.units) do_ne (d_call c__law_refused (a_cons d_int (a_cons (d_var 4) (a_cons (d_var 16) (a_cons d_non (a_cons d_non a_nil))))) hr (by omega)) (d_lst (a_cons (d_str [116, 114, 105, 112] (by decide +kernel)) a_nil)) (nomark _)) (b_one (s_ret d_bl)) b_nil)
    (b_one (s_ret (d_cmp (fun _ _ => op_eqA hr.units) do_eq (d_call c__law_refused (a_cons d_int (a_cons (d_var 4) (a_cons (d_var 16) (a_cons d_int (a_cons d_int a_nil))))) hr (by omega)) (d_lst (a_cons (d_str [116, 105, 99, 107, 101, 116] (by decide +kernel)) a_nil)) (nomark _)))))))))))))))))
end
end Rb
namespace Rb
open PySem PySem.Spec L2 Mp
theorem p_drawA {ns : List Int} {k : Int} (hk : 0 ≤ k ∧ k < 100000) : ∃ x : Int, 0 ≤ x ∧ x < 100000000 ∧ ∀ s : Sto, f__law_draw [.scr ns, .int k] s = .ok (.int x) s := by
  have fin : ∀ c : Int, ∃ x : Int, 0 ≤ x ∧ x < 100000000 ∧ x = (c % 1000000007 + 7919 * k + 13) * (c % 1000000007 + 7919 * k + 13) % 1000000007 * (c % 1000000007 + 7919 * k + 13) % 998244353 / 11 := fun c => ⟨_, by omega, by omega, rfl⟩
  have e1 : ∀ i c, cMul i (c % 1000000007 + 7919 * k + 13) = true := fun i c => cMul_r (by omega)
  have e2 : cMul 7919 k = true := cMul_l (by omega)
  cases ns with
  | nil =>
    obtain ⟨x, h1, h2, h3⟩ := fin 0
    refine ⟨x, h1, h2, fun s => ?_⟩
    have e3 := e1 (7919 * k + 13) 0
    have e4 := fun i => e1 i 0
    rw [h3]
    simp at e4
    simp [f__law_draw, mkF, g__law_draw, oEq_scr0, lim_eq, e2, e4]
  | cons n ns =>
    have hp : (0 : Int) < ((n :: ns).length : Int) := by rw [List.length_cons]; omega
    obtain ⟨d, h1, v, e⟩ := atI_ex (xs := (n :: ns).map D.int) (i := k % ((n :: ns).length : Int)) (Q := fun d => ∃ v, d = D.int v) (Int.emod_nonneg _ (by omega)) (by
      rw [List.length_map]
      exact Int.emod_lt_of_pos _ hp) (by simp)
    subst e
    obtain ⟨x, q1, q2, q3⟩ := fin v
    refine ⟨x, q1, q2, fun s => ?_⟩
    rw [q3]
    simp only [List.map_cons, List.length_cons] at h1
    simp only [List.length_cons] at hp
    push_cast at h1 hp
    simp [f__law_draw, mkF, g__law_draw, oEq_scr0, lim_eq, h1, hp, e1, e2]
theorem p_draw {ns : List Int} {k : Int} {s : Sto} (hk : 0 ≤ k ∧ k < 100000) : ∃ x : Int, 0 ≤ x ∧ x < 100000000 ∧ f__law_draw [.scr ns, .int k] s = .ok (.int x) s := by
  obtain ⟨x, h1, h2, h3⟩ := p_drawA (ns := ns) hk
  exact ⟨x, h1, h2, h3 s⟩
/-! ### names -/
abbrev lets : List Nat := [97, 98, 99, 100, 101, 102, 103, 104, 105, 106, 107, 108, 109, 110, 111, 112, 113, 114, 115, 116, 117, 118, 119, 120, 121, 122]
theorem let_at : ∀ i : Fin 26, lets[i.val]? = some (97 + i.val) := by decide
theorem let_atI {i : Int} (h0 : 0 ≤ i) (h1 : i < 26) : atI lets i = some (97 + i.toNat) := by
  rw [atI_int h0 (by show i < 26; exact h1)]
  exact let_at ⟨i.toNat, by omega⟩
def NmOk (z : List Nat) : Prop := z ≠ [] ∧ z.length ≤ 8 ∧ ∀ c ∈ z, 97 ≤ c ∧ c ≤ 122
def ltr (a : Int) (m : Int) (j : Nat) : Nat := 97 + ((a + m * j) % 26).toNat
theorem ltr_ok {a m : Int} {j : Nat} : 97 ≤ ltr a m j ∧ ltr a m j ≤ 122 := by
  unfold ltr
  have h1 := Int.emod_nonneg (a + m * j) (by decide : (26 : Int) ≠ 0)
  have h2 := Int.emod_lt_of_pos (a + m * j) (by decide : (0 : Int) < 26)
  omega
theorem join0 : ∀ ys : List Nat, TL.joinL [] (ys.map fun c => [c]) = ys
  | [] => rfl
  | [c] => rfl
  | c :: d :: ys => by
    have ih := join0 (d :: ys)
    simp only [List.map_cons] at ih ⊢
    show [c] ++ ([] ++ TL.joinL [] ([d] :: ys.map fun c => [c])) = _
    rw [ih]
    rfl
theorem sum1 : ∀ ys : List Nat, ((ys.map fun c => [c]).map List.length).sum = ys.length
  | [] => rfl
  | c :: ys => by
    have := sum1 ys
    simp at this ⊢
    omega
theorem mJoin1 {ys : List Nat} {s : Sto} (h : ys.length ≤ 1000) : mJoin (.str []) [.lst (ys.map fun c => D.str [c])] s = .ok (.str ys) s := by
  have e : ys.map (fun c => D.str [c]) = (ys.map fun c => [c]).map D.str := by rw [List.map_map]; rfl
  rw [e, mJoin_ok (by rw [sum1, lim_eq]; simp; omega), join0]
theorem intsD_map {a : Int} {n : Nat} {α : Type} (f : D → α) : (intsD a n).map f = (List.range n).map fun (i : Nat) => f (.int (a + (i : Int))) := by
  simp [intsD]
theorem mem_ints {a : Int} {n : Nat} {d : D} (h : d ∈ intsD a n) : ∃ i : Nat, i < n ∧ d = .int (a + (i : Int)) := by
  simp [intsD] at h
  obtain ⟨i, h1, h2⟩ := h
  exact ⟨i, h1, h2.symm⟩
/-- letters[(a + m * j) % 26] for j in range(n), slot 9 -/
theorem p_row {δ : Mp.Env} {s : Sto} {n : Nat} {m : Int} {e : DE} {x : Int} (hn : n ≤ 8) (he : ∀ (j : Nat) , j < n → e (δ.set 9 (some (.int (0 + (j : Int))))) s = .ok (.str [ltr x m j]) s) :
    lcL (tgN 9) cYes e δ (intsD 0 n) [] s = .ok (.lst (((List.range n).map (ltr x m)).map fun c => D.str [c])) s := by
  rw [lcL_map (fun d => match d with | .int j => .str [ltr x m j.toNat] | _ => .non) (intsD 0 n) [] (by rw [lim_eq]; simp [intsD]; omega) (by
    intro d hd
    obtain ⟨j, hj, rfl⟩ := mem_ints hd
    refine ⟨_, rfl, ?_⟩
    rw [he j hj]
    simp)]
  rw [intsD_map]
  simp
theorem cut_take {α : Type} {xs : List α} {i : Nat} (h : i ≤ xs.length) : cutL xs none (some (i : Int)) = xs.take i := by
  have := cutL_to (a := xs.take i) (b := xs.drop i) (i := (i : Int)) (by rw [List.length_take]; omega)
  rw [List.take_append_drop] at this
  exact this
theorem cut_drop {α : Type} {xs : List α} {i : Nat} (h : i ≤ xs.length) : cutL xs (some (i : Int)) none = xs.drop i := by
  have := cutL_from (a := xs.take i) (b := xs.drop i) (i := (i : Int)) (by rw [List.length_take]; omega)
  rw [List.take_append_drop] at this
  exact this
theorem nodup_map {α : Type} {f : Nat → α} {n : Nat} (h : ∀ i j, i < n → j < n → f i = f j → i = j) : ((List.range n).map f).Nodup := by
  rw [List.Nodup, List.pairwise_map]
  refine List.Pairwise.imp_of_mem (R := fun a b => a ≠ b) (fun {a b} ha hb hab e => hab (h a b (List.mem_range.mp ha) (List.mem_range.mp hb) e)) ?_
  exact List.nodup_range
theorem seq_step {f g : DS} {δ δ' : Mp.Env} {s s' : Sto} {o : Out} (h1 : f δ s = .nx δ' s') (h2 : g δ' s' = o) : sSeq f g δ s = o := by
  rw [sSeq_eq, h1]
  exact h2
theorem seq_ret {f g : DS} {δ : Mp.Env} {s s' : Sto} {d : D} (h1 : f δ s = .rt d s') : sSeq f g δ s = .rt d s' := by
  rw [sSeq_eq, h1]
  rfl
theorem row_ex {x m : Int} {n : Nat} : ∃ row : List Nat, row = (List.range n).map (ltr x m) ∧ row.length = n ∧ ∀ c ∈ row, 97 ≤ c ∧ c ≤ 122 := by
  refine ⟨_, rfl, by simp, ?_⟩
  intro c hc
  obtain ⟨j, _, rfl⟩ := List.mem_map.mp hc
  exact ltr_ok
theorem c_row {j : Nat} {a : Int} {m : Int} (hm : -100 < m ∧ m < 100) : cMul m (j : Int) = true ∧ atI lets ((a + m * (j : Int)) % 26) = some (ltr a m j) := by
  refine ⟨cMul_l (by omega), ?_⟩
  rw [let_atI (Int.emod_nonneg _ (by decide)) (Int.emod_lt_of_pos _ (by decide))]
  rfl
theorem n_pre {row : List Nat} {many : Nat} {δ : Mp.Env} {s : Sto} (hl : row.length = 8) (hm : many ≤ 8) (hδ : δ[5]? = some (some (.str row))) (h9 : δ.length = 10) :
    lcL (tgN 9) cYes (dSl (dVar 5) pNone (pSome (dOp oAdd (dC (.int 1)) (dVar 9)))) δ (intsD 0 many) [] s = .ok (.lst (((List.range many).map fun j => row.take (1 + j)).map D.str)) s := by
  rw [lcL_map (fun d => match d with | .int j => .str (row.take (1 + j.toNat)) | _ => .non) (intsD 0 many) [] (by rw [lim_eq]; simp [intsD]; omega) (by
    intro d hd
    obtain ⟨j, hj, rfl⟩ := mem_ints hd
    refine ⟨_, rfl, ?_⟩
    have e := cut_take (xs := row) (i := 1 + j) (by omega)
    push_cast at e
    have hl' : row.length ≤ lim := by rw [lim_eq]; omega
    have q1 : (δ.set 9 (some (.int (0 + (j : Int)))))[5]? = some (some (.str row)) := by rw [List.getElem?_set_ne (by decide)]; exact hδ
    have q2 : (δ.set 9 (some (.int (0 + (j : Int)))))[9]? = some (some (.int (0 + (j : Int)))) := List.getElem?_set_self (by omega)
    simp only [dSl_eq, dVar_eq, q1, q2, bind_ok, pNone_eq, pSome_eq, dOp_eq, dC_eq, oAdd_int, oSl_str hl']
    simp [e])]
  rw [intsD_map]
  simp only [List.nil_append, List.map_map]
  congr 2
  refine List.map_congr_left fun i _ => ?_
  simp
theorem n_mid {rest : List Nat} {at_ many : Nat} {x : Int} {δ : Mp.Env} {s : Sto} (hl : rest.length ≤ 7) (ha : at_ ≤ rest.length) (hm : many ≤ 8) (h3 : δ[3]? = some (some (.str lets))) (h4 : δ[4]? = some (some (.int x))) (h7 : δ[7]? = some (some (.int at_))) (h8 : δ[8]? = some (some (.str rest))) (h9 : δ.length = 10) :
    lcL (tgN 9) cYes (dOp oAdd (dOp oAdd (dSl (dVar 8) pNone (pSome (dVar 7))) (dOp oIx (dVar 3) (dOp oMod (dOp oAdd (dOp oDiv (dVar 4) (dC (.int 5616))) (dVar 9)) (dC (.int 26))))) (dSl (dVar 8) (pSome (dVar 7)) pNone)) δ (intsD 0 many) [] s =
      .ok (.lst (((List.range many).map fun j => rest.take at_ ++ [ltr (x / 5616) 1 j] ++ rest.drop at_).map D.str)) s := by
  rw [lcL_map (fun d => match d with | .int j => .str (rest.take at_ ++ [ltr (x / 5616) 1 j.toNat] ++ rest.drop at_) | _ => .non) (intsD 0 many) [] (by rw [lim_eq]; simp [intsD]; omega) (by
    intro d hd
    obtain ⟨j, hj, rfl⟩ := mem_ints hd
    refine ⟨_, rfl, ?_⟩
    have e1 := cut_take (xs := rest) (i := at_) ha
    have e2 := cut_drop (xs := rest) (i := at_) ha
    have hl' : rest.length ≤ lim := by rw [lim_eq]; omega
    have q3 : (δ.set 9 (some (.int (0 + (j : Int)))))[3]? = some (some (.str lets)) := by rw [List.getElem?_set_ne (by decide)]; exact h3
    have q4 : (δ.set 9 (some (.int (0 + (j : Int)))))[4]? = some (some (.int x)) := by rw [List.getElem?_set_ne (by decide)]; exact h4
    have q7 : (δ.set 9 (some (.int (0 + (j : Int)))))[7]? = some (some (.int at_)) := by rw [List.getElem?_set_ne (by decide)]; exact h7
    have q8 : (δ.set 9 (some (.int (0 + (j : Int)))))[8]? = some (some (.str rest)) := by rw [List.getElem?_set_ne (by decide)]; exact h8
    have q9 : (δ.set 9 (some (.int (0 + (j : Int)))))[9]? = some (some (.int (0 + (j : Int)))) := List.getElem?_set_self (by omega)
    have l1 : atI lets ((x / 5616 + (0 + (j : Int))) % 26) = some (ltr (x / 5616) 1 j) := by
      have := (c_row (j := j) (a := x / 5616) (m := 1) (by decide)).2
      rw [Int.one_mul] at this
      rw [Int.zero_add]
      exact this
    have w1 : (rest.take at_).length + 1 ≤ lim := by rw [lim_eq, List.length_take]; omega
    have w2 : (rest.take at_ ++ [ltr (x / 5616) 1 j]).length + (rest.drop at_).length ≤ lim := by rw [lim_eq, List.length_append, List.length_take, List.length_drop]; simp; omega
    have ll : lets.length ≤ lim := by decide
    simp only [Int.zero_add] at q3 q4 q7 q8 q9 l1
    have d1 : (decide ((0 : Int) < 5616) && decide ((5616 : Int) < 1073741824)) = true := by decide
    have d2 : decide ((0 : Int) < 26) = true := by decide
    simp only [dOp_eq, dSl_eq, dVar_eq, q3, q4, q7, q8, q9, bind_ok, pNone_eq, pSome_eq, dC_eq, oInt_int, d1, d2, if_true, oAdd_int, oSl_str hl', e1, e2, oIx_str, ll, l1, oAdd_str, List.length_singleton, w1, w2, Int.zero_add, Int.toNat_natCast])]
  rw [intsD_map]
  simp only [List.nil_append, List.map_map]
  congr 2
  refine List.map_congr_left fun i _ => ?_
  simp
theorem mid_nodup {rest : List Nat} {at_ many : Nat} {a : Int} (ha : at_ ≤ rest.length) (hm : many ≤ 8) : ((List.range many).map fun j => rest.take at_ ++ [ltr a 1 j] ++ rest.drop at_).Nodup := nodup_map fun i j hi hj e => by
  have e2 := List.append_inj_left' e rfl
  have e3 := List.append_cancel_left e2
  have e4 : ltr a 1 i = ltr a 1 j := by simpa using e3
  unfold ltr at e4
  have h1 := Int.emod_nonneg (a + 1 * (i : Int)) (by decide : (26 : Int) ≠ 0)
  have h2 := Int.emod_nonneg (a + 1 * (j : Int)) (by decide : (26 : Int) ≠ 0)
  omega
/-- nowhere -/
def nwh : List Nat := [110, 111, 119, 104, 101, 114, 101]
theorem row_at {x m : Int} {n j : Nat} (h : j < n) : ((List.range n).map (ltr x m))[j]? = some (ltr x m j) := by simp [h]
theorem nw1 {x : Int} {j : Nat} : ((List.range 8).map (ltr x 5)).take (1 + j) ≠ nwh := by
  intro e
  have l := congrArg List.length e
  simp [nwh] at l
  have e0 := congrArg (fun l => l[0]?) e
  have e1 := congrArg (fun l => l[1]?) e
  simp only [nwh] at e0 e1
  rw [List.getElem?_take_of_lt (by omega), row_at (by omega)] at e0 e1
  simp [ltr] at e0 e1
  omega
theorem nw2 {x a : Int} {n at_ j : Nat} (ha : at_ ≤ n) : ((List.range n).map (ltr x 7)).take at_ ++ [ltr a 1 j] ++ ((List.range n).map (ltr x 7)).drop at_ ≠ nwh := by
  intro e
  have l := congrArg List.length e
  simp [nwh] at l
  have hn : n = 6 := by omega
  subst hn
  have r6 : (List.range 6).map (ltr x 7) = [ltr x 7 0, ltr x 7 1, ltr x 7 2, ltr x 7 3, ltr x 7 4, ltr x 7 5] := rfl
  rw [r6] at e
  unfold nwh at e
  have hc : at_ = 0 ∨ at_ = 1 ∨ at_ = 2 ∨ at_ = 3 ∨ at_ = 4 ∨ at_ = 5 ∨ at_ = 6 := by omega
  rcases hc with rfl | rfl | rfl | rfl | rfl | rfl | rfl <;> simp [ltr] at e <;> omega
theorem p_names {ns : List Int} {k M : Int} {many : Nat} {s : Sto} (hk : 0 ≤ k ∧ k < 10000) (hm : many ≤ 8) (hM : M = (many : Int)) : ∃ zs : List (List Nat), zs.length = many ∧ zs.Nodup ∧ (∀ z ∈ zs, NmOk z ∧ z ≠ nwh) ∧ f__law_names [.scr ns, .int k, .int M] s = .ok (.lst (zs.map D.str)) s := by
  obtain ⟨x, x0, x1, e1⟩ := p_draw (ns := ns) (k := k) (s := s) (by omega)
  have sm : small62 M = true := by unfold small62; simp; omega
  have tm : M.toNat = many := by omega
  have s8 : small62 8 = true := by decide
  by_cases h3 : x % 3 = 1
  · obtain ⟨row, hrow, hl, hok⟩ := row_ex (x := x / 3) (m := 5) (n := 8)
    have r1 := p_row (δ := [some (.scr ns), some (.int k), some (.int M), some (.str lets), some (.int x), none, none, none, none, none]) (s := s) (n := 8) (m := 5) (x := x / 3) (e := dOp oIx (dVar 3) (dOp oMod (dOp oAdd (dOp oDiv (dVar 4) (dC (.int 3))) (dOp oMulA (dC (.int 5)) (dVar 9))) (dC (.int 26)))) (by omega) (fun j hj => by
      obtain ⟨c1, l1⟩ := c_row (j := j) (a := x / 3) (m := 5) (by omega)
      simp [lim_eq, c1, l1])
    rw [← hrow] at r1
    have r2 := mJoin1 (ys := row) (s := s) (by omega)
    have r3 := n_pre (row := row) (many := many) (δ := [some (.scr ns), some (.int k), some (.int M), some (.str lets), some (.int x), some (.str row), none, none, none, none]) (s := s) hl hm rfl rfl
    refine ⟨(List.range many).map fun j => row.take (1 + j), by simp, nodup_map fun i j hi hj e => ?_, ?_, ?_⟩
    · have := congrArg List.length e
      rw [List.length_take, List.length_take] at this
      omega
    · intro z hz
      obtain ⟨j, hj, rfl⟩ := List.mem_map.mp hz
      have hj' := List.mem_range.mp hj
      refine ⟨⟨fun q => ?_, by rw [List.length_take]; omega, fun c hc => hok c (List.mem_of_mem_take hc)⟩, by rw [hrow]; exact nw1⟩
      have := congrArg List.length q
      rw [List.length_take, hl] at this
      simp only [List.length_nil] at this
      omega
    · have h3' : (x % 3 == 1) = true := by simpa using h3
      generalize (List.range many).map (fun j => row.take (1 + j)) = zs at r3 ⊢
      have key : g__law_names [some (.scr ns), some (.int k), some (.int M), none, none, none, none, none, none, none] s = .rt (.lst (zs.map D.str)) s := by
        unfold g__law_names
        refine seq_step (δ' := [some (.scr ns), some (.int k), some (.int M), some (.str lets), none, none, none, none, none, none]) (s' := s) (by simp) ?_
        refine seq_step (δ' := [some (.scr ns), some (.int k), some (.int M), some (.str lets), some (.int x), none, none, none, none, none]) (s' := s) (by simp [e1]) ?_
        refine seq_ret ?_
        have i1 : tst (dOp oEq (dOp oMod (dVar 4) (dC (.int 3))) (dC (.int 1))) [some (.scr ns), some (.int k), some (.int M), some (.str lets), some (.int x), none, none, none, none, none] s = .ok true s := by simp [h3']
        rw [sIf_eq, i1]
        simp only [out_ok, if_true]
        refine seq_step (δ' := [some (.scr ns), some (.int k), some (.int M), some (.str lets), some (.int x), some (.str row), none, none, none, none]) (s' := s) (by simp [s8, r1, r2]) ?_
        simp [sm, tm, r3]
      show finO s.length (g__law_names [some (.scr ns), some (.int k), some (.int M), none, none, none, none, none, none, none] s) = _
      rw [key]
      simp
  · have z0 : 0 ≤ x / 3 % 8 := by omega
    have z1 : x / 3 % 8 < 8 := by omega
    obtain ⟨n, hn⟩ := Int.eq_ofNat_of_zero_le z0
    obtain ⟨rest, hrow, hl, hok⟩ := row_ex (x := x / 216) (m := 7) (n := n)
    have r1 := p_row (δ := [some (.scr ns), some (.int k), some (.int M), some (.str lets), some (.int x), none, some (.int (x / 3 % 8)), some (.int (x / 24 % (x / 3 % 8 + 1))), none, none]) (s := s) (n := n) (m := 7) (x := x / 216) (e := dOp oIx (dVar 3) (dOp oMod (dOp oAdd (dOp oDiv (dVar 4) (dC (.int 216))) (dOp oMulA (dC (.int 7)) (dVar 9))) (dC (.int 26)))) (by omega) (fun j hj => by
      obtain ⟨c1, l1⟩ := c_row (j := j) (a := x / 216) (m := 7) (by omega)
      simp [lim_eq, c1, l1])
    rw [← hrow] at r1
    have r2 := mJoin1 (ys := rest) (s := s) (by omega)
    have p1 : 0 < x / 3 % 8 + 1 := by omega
    have y0 : 0 ≤ x / 24 % (x / 3 % 8 + 1) := Int.emod_nonneg _ (by omega)
    have y1 : x / 24 % (x / 3 % 8 + 1) < x / 3 % 8 + 1 := Int.emod_lt_of_pos _ p1
    obtain ⟨at_, hat⟩ := Int.eq_ofNat_of_zero_le y0
    have sn : small62 (x / 3 % 8) = true := by unfold small62; simp; omega
    have r3 := n_mid (rest := rest) (at_ := at_) (many := many) (x := x) (δ := [some (.scr ns), some (.int k), some (.int M), some (.str lets), some (.int x), none, some (.int (x / 3 % 8)), some (.int at_), some (.str rest), none]) (s := s) (by omega) (by omega) hm rfl rfl rfl rfl rfl
    have nd := mid_nodup (rest := rest) (at_ := at_) (many := many) (a := x / 5616) (by omega) hm
    have nm : ∀ z ∈ (List.range many).map (fun j => rest.take at_ ++ [ltr (x / 5616) 1 j] ++ rest.drop at_), NmOk z ∧ z ≠ nwh := by
      intro z hz
      obtain ⟨j, hj, rfl⟩ := List.mem_map.mp hz
      refine ⟨⟨by simp, by simp [List.length_take, List.length_drop]; omega, fun c hc => ?_⟩, by rw [hrow]; exact nw2 (by omega)⟩
      rw [List.mem_append, List.mem_append] at hc
      rcases hc with (hc | hc) | hc
      · exact hok c (List.mem_of_mem_take hc)
      · rw [List.mem_singleton.mp hc]; exact ltr_ok
      · exact hok c (List.mem_of_mem_drop hc)
    have ln : ((List.range many).map (fun j => rest.take at_ ++ [ltr (x / 5616) 1 j] ++ rest.drop at_)).length = many := by simp
    generalize (List.range many).map (fun j => rest.take at_ ++ [ltr (x / 5616) 1 j] ++ rest.drop at_) = zs at r3 nd nm ln
    refine ⟨zs, ln, nd, nm, ?_⟩
    have h3' : (x % 3 == 1) = false := by simpa using h3
    rw [← hat] at r3
    have tn : (x / 3 % 8).toNat = n := by omega
    have key : g__law_names [some (.scr ns), some (.int k), some (.int M), none, none, none, none, none, none, none] s = .rt (.lst (zs.map D.str)) s := by
      unfold g__law_names
      refine seq_step (δ' := [some (.scr ns), some (.int k), some (.int M), some (.str lets), none, none, none, none, none, none]) (s' := s) (by simp) ?_
      refine seq_step (δ' := [some (.scr ns), some (.int k), some (.int M), some (.str lets), some (.int x), none, none, none, none, none]) (s' := s) (by simp [e1]) ?_
      refine seq_step (δ' := [some (.scr ns), some (.int k), some (.int M), some (.str lets), some (.int x), none, none, none, none, none]) (s' := s) (by simp [h3']) ?_
      refine seq_step (δ' := [some (.scr ns), some (.int k), some (.int M), some (.str lets), some (.int x), none, some (.int (x / 3 % 8)), none, none, none]) (s' := s) (by simp) ?_
      refine seq_step (δ' := [some (.scr ns), some (.int k), some (.int M), some (.str lets), some (.int x), none, some (.int (x / 3 % 8)), some (.int (x / 24 % (x / 3 % 8 + 1))), none, none]) (s' := s) (by simp [p1]) ?_
      refine seq_step (δ' := [some (.scr ns), some (.int k), some (.int M), some (.str lets), some (.int x), none, some (.int (x / 3 % 8)), some (.int (x / 24 % (x / 3 % 8 + 1))), some (.str rest), none]) (s' := s) (by simp [sn, tn, r1, r2]) ?_
      simp [sm, tm, r3]
    show finO s.length (g__law_names [some (.scr ns), some (.int k), some (.int M), none, none, none, none, none, none, none] s) = _
    rw [key]
    simp
end Rb
namespace Rb
open PySem PySem.Spec L2 Mp
/-! ### zones as bits -/
def zb (z : Int) : Int := if z = 1 then 1 else if z = 2 then 2 else if z = 3 then 4 else if z = 4 then 8 else if z = 5 then 16 else 32
def inZ (b z : Int) : Bool := b / zb z % 2 == 1
def zs6 : List Int := [1, 2, 3, 4, 5, 6]
def zonesOf (b : Int) : List Int := zs6.filter (inZ b)
theorem zs6_mem {z : Int} (h : z ∈ zs6) : z = 1 ∨ z = 2 ∨ z = 3 ∨ z = 4 ∨ z = 5 ∨ z = 6 := by simpa [zs6] using h
theorem p_zones {b : Int} {s : Sto} : f__law_zones [.int b] s = .ok (.lst ((zonesOf b).map D.int)) s := by
  have r := lcL_fil (s := s) (δ := [some (.int b), none]) (t := tgN 1) (c := tst (dOp oEq (dOp oMod (dOp oDiv (dVar 0) (dOp oIx (dLst (aCons (dC (.int 1)) (aCons (dC (.int 2)) (aCons (dC (.int 4)) (aCons (dC (.int 8)) (aCons (dC (.int 16)) (aCons (dC (.int 32)) aNil))))))) (dOp oSub (dVar 1) (dC (.int 1))))) (dC (.int 2))) (dC (.int 1)))) (e := dVar 1) id (fun d => match d with | .int z => inZ b z | _ => false) (zs6.map D.int) [] (by rw [lim_eq]; decide) (by
    intro d hd
    obtain ⟨z, hz, rfl⟩ := List.mem_map.mp hd
    refine ⟨_, rfl, ?_, fun _ => by simp⟩
    rcases zs6_mem hz with h | h | h | h | h | h <;> subst h <;> simp [lim_eq, inZ, zb])
  have e1 : intsD 1 6 = zs6.map D.int := rfl
  have e2 : ((zs6.map D.int).filter (fun d => match d with | .int z => inZ b z | _ => false)).map id = (zonesOf b).map D.int := by
    rw [List.map_id, List.filter_map]
    rfl
  rw [e2] at r
  have s1 : small62 1 = true := by decide
  have s7 : small62 7 = true := by decide
  simp only [List.nil_append] at r
  simp [f__law_zones, mkF, g__law_zones, s1, s7, e1]
  rw [r]
  simp
def orZ (a z : Int) : Int := Builtin.bitOr a (1 * 2 ^ (z - 1).toNat)
theorem or_fold : ∀ b : Fin 64, (zonesOf (b.val : Int)).foldl orZ 0 = (b.val : Int) := by decide +kernel
theorem fit_all : ∀ b c : Fin 64, (Builtin.bitAnd (b.val : Int) (c.val : Int) == (b.val : Int)) = ((zonesOf (b.val : Int)).filter fun z => !decide (z ∈ zonesOf (c.val : Int))).isEmpty := by decide +kernel
def okB (b : Int) : Prop := 1 ≤ b ∧ b ≤ 63
def fitsZ (b c : Int) : Bool := ((zonesOf b).filter fun z => !decide (z ∈ zonesOf c)).isEmpty
theorem fin_of {b : Int} (h : okB b) : ∃ f : Fin 64, (f.val : Int) = b := ⟨⟨b.toNat, by unfold okB at h; omega⟩, by unfold okB at h; simp; omega⟩
theorem fits_eq {b c : Int} (hb : okB b) (hc : okB c) : (Builtin.bitAnd b c == b) = fitsZ b c := by
  obtain ⟨f, rfl⟩ := fin_of hb
  obtain ⟨g, rfl⟩ := fin_of hc
  exact fit_all f g
theorem zb_loop {s : Sto} {a : Option D} : ∀ (zs : List Int) (x : Int) (z : Option D), (∀ z ∈ zs, 1 ≤ z ∧ z ≤ 6) → ∃ z', forL (tgN 2) g_zone_bits_b1 (zs.map D.int) [a, some (.int x), z] s = .nx [a, some (.int (zs.foldl orZ x)), z'] s
  | [], x, z, _ => ⟨z, rfl⟩
  | y :: ys, x, z, h => by
    have hy := h y List.mem_cons_self
    obtain ⟨z', e⟩ := zb_loop (s := s) (a := a) ys (orZ x y) (some (.int y)) fun w hw => h w (List.mem_cons_of_mem _ hw)
    refine ⟨z', ?_⟩
    have c1 : cPow 1 (y - 1) = true := by unfold cPow; simp; omega
    rw [List.map_cons, forL_next (δ1 := [a, some (.int x), some (.int y)]) (δ2 := [a, some (.int (orZ x y)), some (.int y)]) (s2 := s) rfl (by simp [g_zone_bits_b1, c1, orZ]), e]
    rfl
theorem p_bits {b : Int} {s : Sto} (hb : okB b) : f_zone_bits [.lst ((zonesOf b).map D.int)] s = .ok (.int b) s := by
  obtain ⟨z', e⟩ := zb_loop (s := s) (a := some (.lst ((zonesOf b).map D.int))) (zonesOf b) 0 none (fun z hz => by
    have := zs6_mem ((List.mem_filter.mp hz).1)
    omega)
  have e2 : (zonesOf b).foldl orZ 0 = b := by
    obtain ⟨f, rfl⟩ := fin_of hb
    exact or_fold f
  rw [e2] at e
  simp [f_zone_bits, mkF, g_zone_bits, e]
/-! ### names, zones that rise -/
theorem sign_in {c : Nat} : decide (c ∈ lets) = (decide (97 ≤ c) && decide (c ≤ 122)) := by
  by_cases h : 97 ≤ c ∧ c ≤ 122
  · have : ∀ i : Fin 26, (97 + i.val) ∈ lets := by decide
    have := this ⟨c - 97, by omega⟩
    simp only at this
    rw [show 97 + (c - 97) = c by omega] at this
    simp only [this, decide_true, h.1, h.2, Bool.and_self]
  · rw [show (decide (97 ≤ c) && decide (c ≤ 122)) = false by simpa using fun a b => h ⟨a, b⟩]
    refine decide_eq_false fun hm => h ?_
    have : ∀ x ∈ lets, 97 ≤ x ∧ x ≤ 122 := by decide
    exact this c hm
theorem p_isname {z : List Nat} {s : Sto} (h : NmOk z) : f_is_name [.str z] s = .ok (.bl true) s := by
  obtain ⟨h1, h2, h3⟩ := h
  have i1 : bIsO parT parA csT [.str z, .ty "str"] s = .ok (.bl true) s := iso_ty (t := "str") rfl kit_ss
  have hl : 0 < z.length := List.length_pos_iff.mpr h1
  have hl1 : (1 : Int) ≤ z.length := by omega
  have hl2 : (z.length : Int) ≤ 8 := by omega
  have hl3 : z.length ≤ lim := by rw [lim_eq]; omega
  have hc := lcL_map (s := s) (δ := [some (.str z), none]) (t := tgN 1) (e := dOp (oInA false) (dVar 1) (dC (.str lets))) (fun _ => D.bl true) (z.map fun c => D.str [c]) [] (by rw [lim_eq]; simp; omega) (by
    intro d hd
    obtain ⟨c, hc, rfl⟩ := List.mem_map.mp hd
    refine ⟨_, rfl, ?_⟩
    have := h3 c hc
    have e := sign_in (c := c)
    rw [decide_eq_true this.1, decide_eq_true this.2] at e
    simp only [dOp_eq, dVar_eq, List.set, List.getElem?_cons_succ, List.getElem?_cons_zero, bind_ok, dC_eq, oInA_sign, e]
    rfl)
  have ha : bAll [.lst ([] ++ (z.map fun c => D.str [c]).map fun _ => D.bl true)] s = .ok (.bl true) s := bAll_true (by
    intro x hx
    rw [List.nil_append] at hx
    obtain ⟨_, _, e⟩ := List.mem_map.mp hx
    exact e.symm)
  have key : g_is_name [some (.str z), none] s = .rt (.bl true) s := by
    unfold g_is_name
    refine seq_step (δ' := [some (.str z), none]) (s' := s) (by simp [i1, hl3, hl1, hl2]) ?_
    simp only [sRet_eq, dBi_eq, aCons_eq, dLc_eq, itAny_eq, dVar_eq, List.getElem?_cons_zero, bind_ok, wipeE_cons, wipeE_nil, List.set, aNil_eq]
    rw [hc]
    simp only [bind_ok, ha, out_ok]
  show finO s.length (g_is_name [some (.str z), none] s) = _
  rw [key]
  simp
def allZ (xs : List Int) : Bool := (xs.zip (xs.drop 1)).all fun p => decide (p.1 < p.2)
theorem zones_rise : ∀ b : Fin 64, b.val ≠ 0 → allZ (zonesOf (b.val : Int)) = true ∧ 1 ≤ (zonesOf (b.val : Int)).length ∧ (zonesOf (b.val : Int)).length ≤ 6 := by decide +kernel
theorem zipD_ints : ∀ xs ys : List Int, zipD (xs.map D.int) (ys.map D.int) = (xs.zip ys).map fun p => D.tup [.int p.1, .int p.2]
  | [], ys => by simp [zipD]
  | x :: xs, [] => by simp [zipD]
  | x :: xs, y :: ys => by
    rw [List.map_cons, List.map_cons]
    show _ :: zipD _ _ = _
    rw [zipD_ints xs ys]
    rfl
theorem p_among {a lo hi : Int} {s : Sto} : f_is_among [.int a, .int lo, .int hi] s = .ok (.bl (decide (lo ≤ a) && decide (a ≤ hi))) s := by
  have i1 : bIsO parT parA csT [.int a, .ty "int"] s = .ok (.bl true) s := iso_ty (t := "int") rfl kit_ii
  have i2 : bIsO parT parA csT [.int a, .ty "bool"] s = .ok (.bl false) s := iso_ty (t := "int") rfl kit_ib
  simp [f_is_among, mkF, g_is_among, i1, i2]
  by_cases h : lo ≤ a <;> simp [h]
theorem p_arez {b : Int} {s : Sto} (hb : okB b) : f_are_zones [.lst ((zonesOf b).map D.int)] s = .ok (.bl true) s := by
  obtain ⟨f, hf⟩ := fin_of hb
  have hz := zones_rise f (by unfold okB at hb; omega)
  rw [hf] at hz
  have hm : ∀ z ∈ zonesOf b, 1 ≤ z ∧ z ≤ 6 := fun z hz => by
    have := zs6_mem ((List.mem_filter.mp hz).1)
    omega
  generalize zonesOf b = zs at hz hm
  obtain ⟨h1, h2, h3⟩ := hz
  have i1 : bIsO parT parA csT [.lst (zs.map D.int), .ty "list"] s = .ok (.bl true) s := iso_ty (t := "list") rfl kit_ll
  have hl1 : (1 : Int) ≤ zs.length := by omega
  have hl2 : (zs.length : Int) ≤ 6 := by omega
  have c1 := lcL_map (s := s) (δ := [some (.lst (zs.map D.int)), none, none, none]) (t := tgN 1) (e := dCall f_is_among (aCons (dVar 1) (aCons (dC (.int 1)) (aCons (dC (.int 6)) aNil)))) (fun _ => D.bl true) (zs.map D.int) [] (by rw [lim_eq]; simp; omega) (by
    intro d hd
    obtain ⟨x, hx, rfl⟩ := List.mem_map.mp hd
    refine ⟨_, rfl, ?_⟩
    have := hm x hx
    simp [p_among, this.1, this.2])
  have a1 : bAll [.lst ([] ++ (zs.map D.int).map fun _ => D.bl true)] s = .ok (.bl true) s := bAll_true (by
    intro x hx
    rw [List.nil_append] at hx
    obtain ⟨_, _, e⟩ := List.mem_map.mp hx
    exact e.symm)
  have e1 : cutL (zs.map D.int) (some 1) none = (zs.drop 1).map D.int := by
    have := cut_drop (xs := zs.map D.int) (i := 1) (by simp; omega)
    rw [List.map_drop]
    exact this
  have c2 := lcL_map (s := s) (δ := [some (.lst (zs.map D.int)), none, none, none]) (t := tgT [tgN 2, tgN 3]) (e := dOp oLt (dVar 2) (dVar 3)) (fun _ => D.bl true) ((zs.zip (zs.drop 1)).map fun p => D.tup [.int p.1, .int p.2]) [] (by rw [lim_eq]; simp; omega) (by
    intro d hd
    obtain ⟨p, hp, rfl⟩ := List.mem_map.mp hd
    refine ⟨_, rfl, ?_⟩
    have := List.all_eq_true.mp h1 p hp
    simp at this
    simp [this])
  have a2 : bAll [.lst ([] ++ ((zs.zip (zs.drop 1)).map fun p => D.tup [.int p.1, .int p.2]).map fun _ => D.bl true)] s = .ok (.bl true) s := bAll_true (by
    intro x hx
    rw [List.nil_append] at hx
    obtain ⟨_, _, e⟩ := List.mem_map.mp hx
    exact e.symm)
  have key : g_are_zones [some (.lst (zs.map D.int)), none, none, none] s = .rt (.bl true) s := by
    unfold g_are_zones
    refine seq_step (δ' := [some (.lst (zs.map D.int)), none, none, none]) (s' := s) (by simp [i1, hl1, hl2]) ?_
    refine seq_step (δ' := [some (.lst (zs.map D.int)), none, none, none]) (s' := s) (by
      simp only [sIf_eq, tNot_eq, tst_eq, dBi_eq, aCons_eq, dLc_eq, itAny_eq, dVar_eq, List.getElem?_cons_zero, bind_ok, wipeE_cons, wipeE_nil, List.set, aNil_eq]
      rw [c1]
      simp only [bind_ok, a1, out_ok, Bool.not_true, Bool.false_eq_true, if_false, sPass_eq]) ?_
    simp only [sRet_eq, dBi_eq, aCons_eq, dLc_eq, itZip_eq, dSl_eq, pSome_eq, pNone_eq, dC_eq, dVar_eq, List.getElem?_cons_zero, bind_ok, wipeE_cons, wipeE_nil, List.set, aNil_eq, oSl, lqOf_lst, e1, zipD_ints]
    rw [c2]
    simp only [bind_ok, a2, out_ok]
  show finO s.length (g_are_zones [some (.lst (zs.map D.int)), none, none, none] s) = _
  rw [key]
  simp
end Rb
namespace Rb
open PySem PySem.Spec L2 Mp
structure Tk where
  nm : List Nat
  pr : Int
  la : Int
  b : Int
def Tk.d (t : Tk) : D := .tup [.str t.nm, .int t.pr, .int t.la, .lst ((zonesOf t.b).map D.int)]
def Tk.n (t : Tk) : D := .tup [.int t.pr, .int t.la, .tup ((zonesOf t.b).map D.int)]
def Tk.ok (t : Tk) : Prop := (NmOk t.nm ∧ t.nm ≠ nwh) ∧ (0 ≤ t.pr ∧ t.pr ≤ 10000) ∧ (1 ≤ t.la ∧ t.la ≤ 1440) ∧ okB t.b
theorem tk_loop {ns : List Int} {k M : Int} (hk : 0 ≤ k ∧ k < 1000) : ∀ (zs : List (List Nat)) (i : Nat) (acc : List Tk) (o4 o5 o6 o7 o8 o9 : Option D), (∀ z ∈ zs, NmOk z ∧ z ≠ nwh) → i + zs.length ≤ 10 → acc.length + zs.length ≤ 10 →
    ∃ ts : List Tk, ∃ p4 p5 p6 p7 p8 p9, ts.map Tk.nm = zs ∧ (∀ t ∈ ts, t.ok) ∧
      forL (tgT [tgN 4, tgN 5]) g__law_tickets_b1 (enD i (zs.map D.str)) [some (.scr ns), some (.int k), some (.int M), some (.loc 0), o4, o5, o6, o7, o8, o9] [.lst (acc.map Tk.d)] =
        .nx [some (.scr ns), some (.int k), some (.int M), some (.loc 0), p4, p5, p6, p7, p8, p9] [.lst ((acc ++ ts).map Tk.d)]
  | [], i, acc, o4, o5, o6, o7, o8, o9, _, _, _ => ⟨[], o4, o5, o6, o7, o8, o9, rfl, (fun t ht => nomatch ht), by simp [enD]⟩
  | z :: zs, i, acc, o4, o5, o6, o7, o8, o9, hz, hi, ha => by
    rw [List.length_cons] at hi ha
    obtain ⟨x, x0, x1, e1⟩ := p_draw (ns := ns) (k := k + 1 + i) (s := [.lst (acc.map Tk.d)]) (by omega)
    obtain ⟨m1, h1, v, rfl, hv⟩ := atI_ex (xs := [D.int 4, D.int 101, D.int 101, D.int 10001]) (i := x / 16 % 4) (Q := fun d => ∃ v, d = .int v ∧ 0 < v ∧ v ≤ 10001) (by omega) (by simp; omega) (by simp)
    obtain ⟨m2, h2, w, rfl, hw⟩ := atI_ex (xs := [D.int 60, D.int 240, D.int 1440]) (i := x / 4096 % 3) (Q := fun d => ∃ v, d = .int v ∧ 0 < v ∧ v ≤ 1440) (by omega) (by simp; omega) (by simp)
    obtain ⟨m3, h3, b, rfl, hb⟩ := atI_ex (xs := [D.int 63, D.int (1 + x / 1024 % 63)]) (i := x / 512 % 2) (Q := fun d => ∃ v, d = .int v ∧ okB v) (by omega) (by simp; omega) (by
      intro d hd
      simp only [List.mem_cons, List.not_mem_nil, or_false] at hd
      rcases hd with rfl | rfl
      · exact ⟨_, rfl, by unfold okB; omega⟩
      · exact ⟨_, rfl, by unfold okB; omega⟩)
    have q1 : 0 ≤ x % v := Int.emod_nonneg _ (by omega)
    have q2 : x % v < v := Int.emod_lt_of_pos _ hv.1
    have q3 : 0 ≤ x / 64 % w := Int.emod_nonneg _ (by omega)
    have q4 : x / 64 % w < w := Int.emod_lt_of_pos _ hw.1
    let t : Tk := ⟨z, x % v, 1 + x / 64 % w, b⟩
    have ht : t.ok := ⟨hz z List.mem_cons_self, ⟨q1, by show x % v ≤ 10000; omega⟩, ⟨by show 1 ≤ 1 + x / 64 % w; omega, by show 1 + x / 64 % w ≤ 1440; omega⟩, hb⟩
    obtain ⟨ts, p4, p5, p6, p7, p8, p9, g1, g2, g3⟩ := tk_loop (ns := ns) (M := M) hk zs (i + 1) (acc ++ [t]) (some (.int i)) (some (.str z)) (some (.int x)) (some (.int (x % v))) (some (.int (1 + x / 64 % w))) (some (.int b)) (fun y hy => hz y (List.mem_cons_of_mem _ hy)) (by omega) (by simp; omega)
    refine ⟨t :: ts, p4, p5, p6, p7, p8, p9, by simp [g1, t], fun y hy => ?_, ?_⟩
    · rcases List.mem_cons.mp hy with rfl | hy
      · exact ht
      · exact g2 y hy
    · have hl : acc.length < 1000000 := by omega
      rw [List.map_cons]
      show forL _ _ (.tup [.int (i : Int), .str z] :: enD (i + 1) (zs.map D.str)) _ _ = _
      rw [forL_next (δ1 := [some (.scr ns), some (.int k), some (.int M), some (.loc 0), some (.int i), some (.str z), o6, o7, o8, o9]) (δ2 := [some (.scr ns), some (.int k), some (.int M), some (.loc 0), some (.int i), some (.str z), some (.int x), some (.int (x % v)), some (.int (1 + x / 64 % w)), some (.int b)]) (s2 := [.lst ((acc ++ [t]).map Tk.d)]) rfl (by
        simp [g__law_tickets_b1, e1, h1, h2, h3, hv.1, hw.1, lim_eq, p_zones, hl, Tk.d, t])]
      rw [g3]
      simp
theorem p_tickets {ns : List Int} {k M : Int} {many : Nat} (hk : 0 ≤ k ∧ k < 1000) (hm : many ≤ 8) (hM : M = (many : Int)) : ∃ ts : List Tk, ts.length = many ∧ (ts.map Tk.nm).Nodup ∧ (∀ t ∈ ts, t.ok) ∧ f__law_tickets [.scr ns, .int k, .int M] [] = .ok (.lst (ts.map Tk.d)) [] := by
  obtain ⟨zs, z1, z2, z3, e1⟩ := p_names (ns := ns) (k := k) (s := [.lst []]) (by omega) hm hM
  obtain ⟨ts, p4, p5, p6, p7, p8, p9, g1, g2, g3⟩ := tk_loop (ns := ns) (k := k) (M := M) hk zs 0 [] none none none none none none z3 (by omega) (by simp; omega)
  refine ⟨ts, by rw [← z1, ← g1]; simp, by rw [g1]; exact z2, g2, ?_⟩
  have key : g__law_tickets [some (.scr ns), some (.int k), some (.int M), none, none, none, none, none, none, none] [] = .rt (.lst (ts.map Tk.d)) [.dead] := by
    unfold g__law_tickets
    refine seq_step (δ' := [some (.scr ns), some (.int k), some (.int M), some (.loc 0), none, none, none, none, none, none]) (s' := [.lst []]) (by simp [lim_eq]) ?_
    refine seq_step (δ' := [some (.scr ns), some (.int k), some (.int M), some (.loc 0), p4, p5, p6, p7, p8, p9]) (s' := [.lst (ts.map Tk.d)]) (by
      simp only [sFor_eq, itEnum_eq, aCons_eq, dCall_eq, dVar_eq, List.getElem?_cons_zero, List.getElem?_cons_succ, bind_ok, aNil_eq, e1, out_ok]
      simpa using g3) ?_
    refine seq_step (δ' := [some (.scr ns), some (.int k), some (.int M), some (.lst (ts.map Tk.d)), p4, p5, p6, p7, p8, p9]) (s' := [.dead]) (by rfl) ?_
    simp
  show finO 0 (g__law_tickets [some (.scr ns), some (.int k), some (.int M), none, none, none, none, none, none, none] []) = _
  rw [key]
  have hb : below 0 (.lst (ts.map Tk.d)) = true := by
    show belows 0 (ts.map Tk.d) = true
    have : ∀ l : List Tk, belows 0 (l.map Tk.d) = true := fun l => by
      induction l with
      | nil => rfl
      | cons t l ih =>
        rw [List.map_cons]
        show (below 0 t.d && belows 0 (l.map Tk.d)) = true
        rw [ih]
        simp [Tk.d, below, belows, below_ints]
    exact this ts
  show cut 0 (.lst (ts.map Tk.d)) [.dead] = _
  unfold Mp.cut
  rw [if_neg (by decide), if_pos (by simp [hb])]
  rfl
end Rb
namespace Rb
open PySem PySem.Spec L2 Mp
abbrev Sb (s : Sto) : Prop := s.all (Cell.below s.length) = true
theorem cut_app {s : Sto} {d : D} {c : Cell} (hs : Sb s) (hd : below s.length d = true) : cut s.length d (s ++ [c]) = .ok d s := by
  unfold Mp.cut
  have e : (s ++ [c]).take s.length = s := by simp
  rw [if_neg (by simp), if_pos (by rw [e, hd, hs]; simp), e]
theorem frz_step {δ : Mp.Env} {s : Sto} {i : Nat} {xs : List D} (h : δ[i]? = some (some (.loc s.length))) : sFrz i δ (s ++ [.lst xs]) = .nx (δ.set i (some (.lst xs))) (s ++ [.dead]) := by
  unfold sFrz
  rw [h]
  simp [frzD]
/-! ### calls -/
abbrev Cl3 := List Nat × Int × Int
def cD (c : Cl3) : D := .tup [.str c.1, .int c.2.1, .int c.2.2]
theorem below_cD {n : Nat} : ∀ cs : List Cl3, belows n (cs.map cD) = true
  | [] => rfl
  | c :: cs => by
    rw [List.map_cons]
    show (below n (cD c) && belows n (cs.map cD)) = true
    rw [below_cD cs]
    rfl
/-- calls that rise, behind one at the stop nm that leaves at m -/
def Rise (names : List (List Nat)) : Option (List Nat) → Int → List Cl3 → Prop
  | _, _, [] => True
  | nm, m, c :: cs => c.1 ∈ names ∧ (∀ n, nm = some n → n ≠ c.1) ∧ m < c.2.1 ∧ c.2.1 ≤ c.2.2 ∧ c.2.2 ≤ 2879 ∧ Rise names (some c.1) c.2.2 cs
theorem Rise.mem {names : List (List Nat)} : ∀ {cs : List Cl3} {nm : Option (List Nat)} {m : Int}, Rise names nm m cs → ∀ c ∈ cs, c.1 ∈ names
  | [], _, _, _, c, hc => by cases hc
  | x :: xs, nm, m, h, c, hc => by
    obtain ⟨h1, _, _, _, _, h2⟩ := h
    rcases List.mem_cons.mp hc with rfl | hc
    · exact h1
    · exact Rise.mem h2 c hc
theorem Rise.none {names : List (List Nat)} {cs : List Cl3} {nm : Option (List Nat)} {m : Int} (h : Rise names nm m cs) : Rise names none m cs := by
  cases cs with
  | nil => trivial
  | cons c cs =>
    obtain ⟨h1, _, h2⟩ := h
    exact ⟨h1, (fun n e => nomatch e), h2⟩
theorem nd_at {names : List (List Nat)} (nd : names.Nodup) {i j : Nat} {z : List Nat} (hi : names[i]? = some z) (hj : names[j]? = some z) : i = j := by
  obtain ⟨a1, a2⟩ := List.getElem?_eq_some_iff.mp hi
  obtain ⟨b1, b2⟩ := List.getElem?_eq_some_iff.mp hj
  have p := List.pairwise_iff_getElem.mp nd
  rcases Nat.lt_trichotomy i j with h | h | h
  · exact absurd (a2.trans b2.symm) (p i j a1 b1 h)
  · exact h
  · exact absurd (b2.trans a2.symm) (p j i b1 a1 h)
theorem st_next {n x st : Int} (hn : 2 ≤ n ∧ n ≤ 5) (hx : 0 ≤ x) (h0 : 0 ≤ st ∧ st < n) : 0 ≤ (st + 1 + x % (n - 1)) % n ∧ (st + 1 + x % (n - 1)) % n < n ∧ (st + 1 + x % (n - 1)) % n ≠ st := by
  have hc : n = 2 ∨ n = 3 ∨ n = 4 ∨ n = 5 := by omega
  rcases hc with rfl | rfl | rfl | rfl <;> (simp only [show (2 : Int) - 1 = 1 by decide, show (3 : Int) - 1 = 2 by decide, show (4 : Int) - 1 = 3 by decide, show (5 : Int) - 1 = 4 by decide]; omega)
theorem cl_loop {ns : List Int} {k : Int} {names : List (List Nat)} (hk : 0 ≤ k ∧ k < 1000) (nd : names.Nodup) (hn : 2 ≤ names.length ∧ names.length ≤ 5) : ∀ (js : List Int) (st mi : Int) (z : List Nat) (o6 o7 o8 : Option D),
    (∀ j ∈ js, 0 ≤ j ∧ j < 10) → 0 ≤ st ∧ st < names.length → names[st.toNat]? = some z → 0 ≤ mi → mi + 45 * js.length ≤ 2879 →
    ∃ (cs : List Cl3) (p4 p5 p6 p7 p8 : Option D), cs.length = js.length ∧ Rise names (some z) mi cs ∧ ∀ (s : Sto) (acc : List Cl3), acc.length + js.length ≤ 20 → 
      forL (tgN 6) g__law_calls_b1 (js.map D.int) [some (.scr ns), some (.int k), some (.lst (names.map D.str)), some (.loc s.length), some (.int st), some (.int mi), o6, o7, o8] (s ++ [.lst (acc.map cD)]) =
        .nx [some (.scr ns), some (.int k), some (.lst (names.map D.str)), some (.loc s.length), p4, p5, p6, p7, p8] (s ++ [.lst ((acc ++ cs).map cD)])
  | [], st, mi, z, o6, o7, o8, _, _, _, _, _ => ⟨[], _, _, _, _, _, rfl, trivial, fun s acc _ => by rw [List.append_nil]; rfl⟩
  | j :: js, st, mi, z, o6, o7, o8, hj, hst, hz, hm, hl => by
    rw [List.length_cons] at hl
    push_cast at hl
    have hj0 := hj j List.mem_cons_self
    obtain ⟨x, x0, x1, e1⟩ := p_drawA (ns := ns) (k := k + 1 + j) (by omega)
    obtain ⟨t0, t1, t2⟩ := st_next (n := names.length) (x := x) (st := st) (by omega) x0 hst
    generalize ht : (st + 1 + x % ((names.length : Int) - 1)) % (names.length : Int) = st' at t0 t1 t2
    have hlt : st'.toNat < names.length := by omega
    obtain ⟨z', hz'⟩ : ∃ z', names[st'.toNat]? = some z' := ⟨_, List.getElem?_eq_getElem hlt⟩
    have hzz : z ≠ z' := fun e => by
      have := nd_at nd hz (e ▸ hz')
      omega
    have ha : ∃ a : Int, a = mi + 1 + x / 8 % 40 := ⟨_, rfl⟩
    obtain ⟨a, ha⟩ := ha
    have hb : ∃ b : Int, b = x / 512 % 6 * (x / 4096 % 2) ∧ 0 ≤ b ∧ b ≤ 5 := by
      refine ⟨_, rfl, ?_⟩
      have : x / 4096 % 2 = 0 ∨ x / 4096 % 2 = 1 := by omega
      rcases this with h | h <;> rw [h] <;> omega
    obtain ⟨b, hb, b0, b1⟩ := hb
    obtain ⟨cs, p4, p5, p6, p7, p8, g0, g1, g2⟩ := cl_loop (ns := ns) hk nd hn js st' (a + b) z' (some (.int j)) (some (.int x)) (some (.int a)) (fun y hy => hj y (List.mem_cons_of_mem _ hy)) ⟨t0, t1⟩ hz' (by omega) (by omega)
    refine ⟨(z', a, a + b) :: cs, p4, p5, p6, p7, p8, by rw [List.length_cons, g0, List.length_cons], ⟨List.mem_of_getElem? hz', fun n e => by cases e; exact hzz, by show mi < a; omega, by show a ≤ a + b; omega, by show a + b ≤ 2879; omega, g1⟩, fun s acc hacc => ?_⟩
    rw [List.length_cons] at hacc
    have g := g2 s (acc ++ [(z', a, a + b)]) (by simp; omega)
    rw [List.append_assoc] at g
    have q1 : atI (names.map D.str) st' = some (.str z') := by
      rw [atI_int t0 (by rw [List.length_map]; exact t1), List.getElem?_map, hz']
      rfl
    have w1 : (0 : Int) < names.length := by omega
    have w2 : (1 : Int) < (names.length : Int) := by omega
    have w1' : 0 < names.length := by omega
    have w2' : 1 < names.length := by omega
    have w3 : acc.length < 1000000 := by omega
    have c1 : cMul (x / 512 % 6) (x / 4096 % 2) = true := cMul_l (by omega)
    rw [List.map_cons, forL_next (δ1 := [some (.scr ns), some (.int k), some (.lst (names.map D.str)), some (.loc s.length), some (.int st), some (.int mi), some (.int j), o7, o8]) (δ2 := [some (.scr ns), some (.int k), some (.lst (names.map D.str)), some (.loc s.length), some (.int st'), some (.int (a + b)), some (.int j), some (.int x), some (.int a)]) (s2 := s ++ [.lst ((acc ++ [(z', a, a + b)]).map cD)]) rfl (by
      have e1' := e1 (s ++ [.lst (acc.map cD)])
      unfold g__law_calls_b1
      refine seq_step (δ' := [some (.scr ns), some (.int k), some (.lst (names.map D.str)), some (.loc s.length), some (.int st), some (.int mi), some (.int j), some (.int x), o8]) (s' := s ++ [.lst (acc.map cD)]) (by simp [e1']) ?_
      refine seq_step (δ' := [some (.scr ns), some (.int k), some (.lst (names.map D.str)), some (.loc s.length), some (.int st'), some (.int mi), some (.int j), some (.int x), o8]) (s' := s ++ [.lst (acc.map cD)]) (by simp [w1, w2, w1', w2', ht]) ?_
      refine seq_step (δ' := [some (.scr ns), some (.int k), some (.lst (names.map D.str)), some (.loc s.length), some (.int st'), some (.int mi), some (.int j), some (.int x), some (.int a)]) (s' := s ++ [.lst (acc.map cD)]) (by simp [ha]) ?_
      refine seq_step (δ' := [some (.scr ns), some (.int k), some (.lst (names.map D.str)), some (.loc s.length), some (.int st'), some (.int (a + b)), some (.int j), some (.int x), some (.int a)]) (s' := s ++ [.lst (acc.map cD)]) (by simp [c1, hb]) ?_
      simp [q1, w3, lim_eq, cD])]
    exact g
theorem p_calls {ns : List Int} {k : Int} {names : List (List Nat)} (hk : 0 ≤ k ∧ k < 1000) (nd : names.Nodup) (hn : 2 ≤ names.length ∧ names.length ≤ 5) :
    ∃ cs : List Cl3, 2 ≤ cs.length ∧ cs.length ≤ 6 ∧ (∃ m, 0 ≤ m ∧ Rise names none m cs) ∧ ∀ s : Sto, Sb s → f__law_calls [.scr ns, .int k, .lst (names.map D.str)] s = .ok (.lst (cs.map cD)) s := by
  obtain ⟨x, x0, x1, e1⟩ := p_drawA (ns := ns) (k := k) (by omega)
  have w1 : (0 : Int) < names.length := by omega
  have w1' : 0 < names.length := by omega
  have st0 : 0 ≤ x % (names.length : Int) := Int.emod_nonneg _ (by omega)
  have st1 : x % (names.length : Int) < names.length := Int.emod_lt_of_pos _ w1
  have hlt : (x % (names.length : Int)).toNat < names.length := by omega
  obtain ⟨z, hz⟩ : ∃ z, names[(x % (names.length : Int)).toNat]? = some z := ⟨_, List.getElem?_eq_getElem hlt⟩
  have hM : ∃ M : Int, M = 2 + x / 8192 % 5 ∧ 2 ≤ M ∧ M ≤ 6 := ⟨_, rfl, by omega, by omega⟩
  obtain ⟨M, hM, M0, M1⟩ := hM
  have ei : intsD 0 M.toNat = ((List.range M.toNat).map fun (i : Nat) => (0 + (i : Int))).map D.int := by simp [intsD]
  have hlen : ((List.range M.toNat).map fun (i : Nat) => (0 + (i : Int))).length = M.toNat := by simp
  obtain ⟨cs, p4, p5, p6, p7, p8, g0, g1, g2⟩ := cl_loop (ns := ns) (k := k) hk nd hn ((List.range M.toNat).map fun (i : Nat) => (0 + (i : Int))) (x % (names.length : Int)) (x / 8 % 600) z none none none (by
    intro j hj
    obtain ⟨i, hi, rfl⟩ := List.mem_map.mp hj
    have := List.mem_range.mp hi
    omega) ⟨st0, st1⟩ hz (by omega) (by rw [hlen]; omega)
  rw [hlen] at g0
  have sm : small62 M = true := by unfold small62; simp; omega
  refine ⟨cs, by omega, by omega, ⟨x / 8 % 600, by omega, g1.none⟩, fun s hs => ?_⟩
  have g := g2 s [] (by rw [hlen]; simp; omega)
  rw [← ei] at g
  have e1' := e1 (s ++ [.lst []])
  have key : g__law_calls [some (.scr ns), some (.int k), some (.lst (names.map D.str)), none, none, none, none, none, none] s = .rt (.lst (cs.map cD)) (s ++ [.dead]) := by
    unfold g__law_calls
    refine seq_step (δ' := [some (.scr ns), some (.int k), some (.lst (names.map D.str)), some (.loc s.length), none, none, none, none, none]) (s' := s ++ [.lst []]) (by simp [lim_eq]) ?_
    refine seq_step (δ' := [some (.scr ns), some (.int k), some (.lst (names.map D.str)), some (.loc s.length), some (.int (x % (names.length : Int))), none, none, none, none]) (s' := s ++ [.lst []]) (by simp [e1', w1, w1']) ?_
    refine seq_step (δ' := [some (.scr ns), some (.int k), some (.lst (names.map D.str)), some (.loc s.length), some (.int (x % (names.length : Int))), some (.int (x / 8 % 600)), none, none, none]) (s' := s ++ [.lst []]) (by simp [e1']) ?_
    refine seq_step (δ' := [some (.scr ns), some (.int k), some (.lst (names.map D.str)), some (.loc s.length), p4, p5, p6, p7, p8]) (s' := s ++ [.lst (cs.map cD)]) (by
      have rg : (itR1 (aCons (dOp oAdd (dC (.int 2)) (dOp oMod (dOp oDiv (dCall f__law_draw (aCons (dVar 0) (aCons (dVar 1) aNil))) (dC (.int 8192))) (dC (.int 5)))) aNil)) [some (.scr ns), some (.int k), some (.lst (names.map D.str)), some (.loc s.length), some (.int (x % (names.length : Int))), some (.int (x / 8 % 600)), none, none, none] (s ++ [.lst []]) = .ok (intsD 0 M.toNat) (s ++ [.lst []]) := by
        simp [e1', ← hM, sm]
      rw [sFor_eq, rg]
      simp only [out_ok]
      exact g) ?_
    refine seq_step (frz_step rfl) ?_
    simp
  show finO s.length (g__law_calls [some (.scr ns), some (.int k), some (.lst (names.map D.str)), none, none, none, none, none, none] s) = _
  rw [key, fin_rt]
  exact cut_app hs (below_cD cs)
end Rb
namespace Rb
open PySem PySem.Spec L2 Mp
/-! ### dicts by names -/
abbrev Ps := List (List Nat × D)
abbrev ky (P : Ps) : List D := P.map fun p => D.str p.1
abbrev vl (P : Ps) : List D := P.map fun p => p.2
theorem lk_no {z : List Nat} : ∀ {P : Ps}, z ∉ P.map (·.1) → lkD (.str z) (ky P) (vl P) = none ∧ ((ky P).any fun c => eqK c (.str z)) = false
  | [], _ => ⟨rfl, rfl⟩
  | t :: ts, h => by
    rw [List.map_cons, List.mem_cons, not_or] at h
    obtain ⟨h1, h2⟩ := lk_no (P := ts) h.2
    have e : (t.1 == z) = false := by
      rw [beq_eq_false_iff_ne]
      exact fun q => h.1 q.symm
    refine ⟨?_, ?_⟩
    · show (if eqK (.str t.1) (.str z) = true then _ else lkD (.str z) (ky ts) (vl ts)) = none
      rw [eqK_str, e, if_neg Bool.false_ne_true]
      exact h1
    · show (eqK (.str t.1) (.str z) || (ky ts).any fun c => eqK c (.str z)) = false
      rw [eqK_str, e, h2]
      rfl
theorem lk_yes : ∀ {P : Ps} {t : List Nat × D}, (P.map (·.1)).Nodup → t ∈ P → lkD (.str t.1) (ky P) (vl P) = some t.2
  | [], t, _, h => by cases h
  | u :: ts, t, nd, h => by
    rw [List.map_cons] at nd
    obtain ⟨n1, n2⟩ := List.nodup_cons.mp nd
    show (if eqK (.str u.1) (.str t.1) = true then some u.2 else lkD (.str t.1) (ky ts) (vl ts)) = _
    rcases List.mem_cons.mp h with rfl | h
    · rw [eqK_str, if_pos (by simp)]
    · have : (u.1 == t.1) = false := by
        rw [beq_eq_false_iff_ne]
        exact fun q => n1 (by rw [q]; exact List.mem_map_of_mem h)
      rw [eqK_str, this, if_neg Bool.false_ne_true]
      exact lk_yes n2 h
theorem lk_mem {z : List Nat} : ∀ {P : Ps}, z ∈ P.map (·.1) → ∃ v, lkD (.str z) (ky P) (vl P) = some v
  | [], h => by cases h
  | u :: ts, h => by
    by_cases e : u.1 = z
    · exact ⟨u.2, by show (if eqK (.str u.1) (.str z) = true then some u.2 else _) = _; rw [eqK_str, if_pos (by simpa using e)]⟩
    · rw [List.map_cons] at h
      rcases List.mem_cons.mp h with q | q
      · exact absurd q.symm e
      · obtain ⟨v, hv⟩ := lk_mem q
        refine ⟨v, ?_⟩
        show (if eqK (.str u.1) (.str z) = true then some u.2 else lkD (.str z) (ky ts) (vl ts)) = _
        rw [eqK_str, if_neg (by simpa using e)]
        exact hv
theorem set_new {P : Ps} {z : List Nat} {d : D} (h : z ∉ P.map (·.1)) : setK (.str z) (ky P) = ky (P ++ [(z, d)]) ∧ setD (.str z) d (ky P) (vl P) = vl (P ++ [(z, d)]) := by
  obtain ⟨_, l2⟩ := lk_no h
  constructor
  · unfold setK
    rw [l2]
    simp [ky]
  · unfold setD
    rw [l2]
    simp [vl]
/-! ### the net -/
abbrev NetO : Cell := .obj 19 [0, 1, 2, 3, 4] [.loc 1, .loc 2, .loc 3, .loc 4, .loc 5]
abbrev NetS (A R T B : Ps) : Sto := [NetO, .dct (ky A) (vl A), .lst [], .dct (ky R) (vl R), .dct (ky T) (vl T), .dct (ky B) (vl B)]
structure Nt (A R T B : Ps) (s : Sto) : Prop where
  o : s[0]? = some NetO
  a : s[1]? = some (.dct (ky A) (vl A))
  r : s[3]? = some (.dct (ky R) (vl R))
  t : s[4]? = some (.dct (ky T) (vl T))
  b : s[5]? = some (.dct (ky B) (vl B))
theorem nt0 {A R T B : Ps} : Nt A R T B (NetS A R T B) := ⟨rfl, rfl, rfl, rfl, rfl⟩
theorem p_init : mkO 19 f_Net___init__ [] [] = .ok (.loc 0) (NetS [] [] [] []) := by rfl
theorem p_need {a lo hi : Int} {s : Sto} (h : lo ≤ a ∧ a ≤ hi) : f_need_among [.int a, .int lo, .int hi] s = .ok .non s := by
  simp [f_need_among, mkF, g_need_among, p_among, h]
theorem p_fresh {P : Ps} {z : List Nat} {n : Nat} {s : Sto} (hz : NmOk z) (h : s[n]? = some (.dct (ky P) (vl P))) (hn : z ∉ P.map (·.1)) : f_need_fresh [.str z, .loc n] s = .ok .non s := by
  simp [f_need_fresh, mkF, g_need_fresh, p_isname hz, h, (lk_no hn).1]
theorem p_room {P : Ps} {n : Nat} {m : Int} {s : Sto} (h : s[n]? = some (.dct (ky P) (vl P))) (hl : (P.length : Int) < m) : f_need_room [.loc n, .int m] s = .ok .non s := by
  have : ¬ m ≤ P.length := by omega
  simp [f_need_room, mkF, g_need_room, bLenA_loc (n := n) (s := s) h, this]
theorem p_nstop {A R T B : Ps} {z : List Nat} {s : Sto} (h : Nt A R T B s) (hz : NmOk z) (hm : z ∈ A.map (·.1)) : f_Net_need_stop [.loc 0, .str z] s = .ok .non s := by
  obtain ⟨v, hv⟩ := lk_mem hm
  simp [f_Net_need_stop, mkF, g_Net_need_stop, p_isname hz, h.o, h.a, hv]
theorem p_nrule {A R T B : Ps} {z : List Nat} {s : Sto} (h : Nt A R T B s) (hz : NmOk z) (hm : z ∈ R.map (·.1)) : f_Net_need_rule [.loc 0, .str z] s = .ok .non s := by
  obtain ⟨v, hv⟩ := lk_mem hm
  simp [f_Net_need_rule, mkF, g_Net_need_rule, p_isname hz, h.o, h.r, hv]
theorem p_ntrip {A R T B : Ps} {z : List Nat} {s : Sto} (h : Nt A R T B s) (hz : NmOk z) (hm : z ∈ B.map (·.1)) : f_Net_need_trip [.loc 0, .str z] s = .ok .non s := by
  obtain ⟨v, hv⟩ := lk_mem hm
  simp [f_Net_need_trip, mkF, g_Net_need_trip, p_isname hz, h.o, h.b, hv]
theorem p_zone {A R T B : Ps} {z : List Nat} {v w : Int} {s : Sto} (h : Nt A R T B s) (nd : (A.map (·.1)).Nodup) (hz : NmOk z) (hm : (z, D.tup [.int v, .int w]) ∈ A) : f_Net_zone [.loc 0, .str z] s = .ok (.int v) s := by
  have l := lk_yes nd hm
  simp only at l
  have n := p_nstop h hz (List.mem_map_of_mem (f := (·.1)) hm)
  simp [f_Net_zone, mkF, g_Net_zone, dMeth_eq, List.lookup, h.o, h.a, n, oDix, l]
abbrev all3 : List Nat := [97, 108, 108]
theorem nm_all3 : NmOk all3 := ⟨by decide, by decide, by decide⟩
def trD (cs : List Cl3) : D := .tup [.str all3, .tup (cs.map cD)]
theorem p_ncalls {A R T B : Ps} {z : List Nat} {cs : List Cl3} {s : Sto} (h : Nt A R T B s) (nd : (B.map (·.1)).Nodup) (hz : NmOk z) (hm : (z, trD cs) ∈ B) : f_Net_calls [.loc 0, .str z] s = .ok (.lst (cs.map cD)) s := by
  have l := lk_yes nd hm
  simp only at l
  have n := p_ntrip h hz (List.mem_map_of_mem (f := (·.1)) hm)
  simp [f_Net_calls, mkF, g_Net_calls, dMeth_eq, List.lookup, h.o, h.b, n, oDix, l, trD]
theorem p_addstop {A R T B : Ps} {z : List Nat} {v : Int} (hz : NmOk z) (hn : z ∉ A.map (·.1)) (hl : A.length < 8) (hv : 1 ≤ v ∧ v ≤ 6) :
    f_Net_add_stop [.loc 0, .str z, .int v, .int 3] (NetS A R T B) = .ok .non (NetS (A ++ [(z, .tup [.int v, .int 3])]) R T B) := by
  have e1 := p_fresh (n := 1) (s := NetS A R T B) hz rfl hn
  have e2 := p_need (s := NetS A R T B) hv
  have e3 := p_need (a := 3) (lo := 0) (hi := 30) (s := NetS A R T B) (by omega)
  have e4 := p_room (P := A) (n := 1) (m := 8) (s := NetS A R T B) rfl (by omega)
  obtain ⟨e6, e7⟩ := set_new (d := .tup [.int v, .int 3]) hn
  have key : g_Net_add_stop [some (.loc 0), some (.str z), some (.int v), some (.int 3)] (NetS A R T B) = .nx [some (.loc 0), some (.str z), some (.int v), some (.int 3)] (NetS (A ++ [(z, .tup [.int v, .int 3])]) R T B) := by
    unfold g_Net_add_stop
    refine seq_step (δ' := [some (.loc 0), some (.str z), some (.int v), some (.int 3)]) (s' := NetS A R T B) (by simp [e1]) ?_
    refine seq_step (δ' := [some (.loc 0), some (.str z), some (.int v), some (.int 3)]) (s' := NetS A R T B) (by simp [e2]) ?_
    refine seq_step (δ' := [some (.loc 0), some (.str z), some (.int v), some (.int 3)]) (s' := NetS A R T B) (by simp [e3]) ?_
    refine seq_step (δ' := [some (.loc 0), some (.str z), some (.int v), some (.int 3)]) (s' := NetS A R T B) (by simp [e4]) ?_
    have hl2 : A.length < 1000 := by omega
    simp [lim_eq, hl2, e6, e7]
  show finO 6 (g_Net_add_stop [some (.loc 0), some (.str z), some (.int v), some (.int 3)] (NetS A R T B)) = _
  rw [key]
  rfl
theorem iso_rule {s : Sto} : bIsO parT parA csT [.obj 18 [] [], .cls 18] s = .ok (.bl true) s := by
  rw [iso_cls (c := 18) (ns := []) (vs := []) (by decide) rfl (by decide) (fun k e => by cases e)]
  rfl
theorem p_addrule {A T B : Ps} : f_Net_add_rule [.loc 0, .str all3, .obj 18 [] []] (NetS A [] T B) = .ok .non (NetS A [(all3, .obj 18 [] [])] T B) := by
  have e1 := p_fresh (P := []) (n := 3) (s := NetS A [] T B) nm_all3 rfl (by simp)
  have e4 := p_room (P := []) (n := 3) (m := 6) (s := NetS A [] T B) rfl (by decide)
  have e2 := iso_rule (s := NetS A [] T B)
  have key : g_Net_add_rule [some (.loc 0), some (.str all3), some (.obj 18 [] [])] (NetS A [] T B) = .nx [some (.loc 0), some (.str all3), some (.obj 18 [] [])] (NetS A [(all3, .obj 18 [] [])] T B) := by
    unfold g_Net_add_rule
    refine seq_step (δ' := [some (.loc 0), some (.str all3), some (.obj 18 [] [])]) (s' := NetS A [] T B) (by simp [e1]) ?_
    refine seq_step (δ' := [some (.loc 0), some (.str all3), some (.obj 18 [] [])]) (s' := NetS A [] T B) (by simp [e2]) ?_
    refine seq_step (δ' := [some (.loc 0), some (.str all3), some (.obj 18 [] [])]) (s' := NetS A [] T B) (by simp [e4]) ?_
    simp [setK, setD]
  show finO 6 (g_Net_add_rule [some (.loc 0), some (.str all3), some (.obj 18 [] [])] (NetS A [] T B)) = _
  rw [key]
  rfl
def Tk.n2 (t : Tk) : List Nat × D := (t.nm, .tup [.int t.pr, .int t.la, .tup ((zonesOf t.b).map D.int)])
theorem p_addticket {A R T B : Ps} {t : Tk} (ht : t.ok) (hn : t.nm ∉ T.map (·.1)) (hl : T.length < 3) :
    f_Net_add_ticket [.loc 0, .str t.nm, .int t.pr, .int t.la, .lst ((zonesOf t.b).map D.int)] (NetS A R T B) = .ok .non (NetS A R (T ++ [t.n2]) B) := by
  obtain ⟨⟨h1, _⟩, h2, h3, h4⟩ := ht
  have e1 := p_fresh (n := 4) (s := NetS A R T B) h1 rfl hn
  have e2 := p_need (s := NetS A R T B) h2
  have e3 := p_need (s := NetS A R T B) h3
  have e4 := p_arez (s := NetS A R T B) h4
  have e5 := p_room (P := T) (n := 4) (m := 3) (s := NetS A R T B) rfl (by omega)
  obtain ⟨e6, e7⟩ := set_new (d := .tup [.int t.pr, .int t.la, .tup ((zonesOf t.b).map D.int)]) hn
  have key : g_Net_add_ticket [some (.loc 0), some (.str t.nm), some (.int t.pr), some (.int t.la), some (.lst ((zonesOf t.b).map D.int))] (NetS A R T B) = .nx [some (.loc 0), some (.str t.nm), some (.int t.pr), some (.int t.la), some (.lst ((zonesOf t.b).map D.int))] (NetS A R (T ++ [t.n2]) B) := by
    unfold g_Net_add_ticket
    refine seq_step (δ' := [some (.loc 0), some (.str t.nm), some (.int t.pr), some (.int t.la), some (.lst ((zonesOf t.b).map D.int))]) (s' := NetS A R T B) (by simp [e1]) ?_
    refine seq_step (δ' := [some (.loc 0), some (.str t.nm), some (.int t.pr), some (.int t.la), some (.lst ((zonesOf t.b).map D.int))]) (s' := NetS A R T B) (by simp [e2]) ?_
    refine seq_step (δ' := [some (.loc 0), some (.str t.nm), some (.int t.pr), some (.int t.la), some (.lst ((zonesOf t.b).map D.int))]) (s' := NetS A R T B) (by simp [e3]) ?_
    refine seq_step (δ' := [some (.loc 0), some (.str t.nm), some (.int t.pr), some (.int t.la), some (.lst ((zonesOf t.b).map D.int))]) (s' := NetS A R T B) (by simp [e4]) ?_
    refine seq_step (δ' := [some (.loc 0), some (.str t.nm), some (.int t.pr), some (.int t.la), some (.lst ((zonesOf t.b).map D.int))]) (s' := NetS A R T B) (by simp [e5]) ?_
    have hl2 : T.length < 1000 := by omega
    simp [lim_eq, hl2, e6, e7, Tk.n2]
  show finO 6 (g_Net_add_ticket [some (.loc 0), some (.str t.nm), some (.int t.pr), some (.int t.la), some (.lst ((zonesOf t.b).map D.int))] (NetS A R T B)) = _
  rw [key]
  rfl
/-! ### trips -/
theorem kit_tt : kitB "tuple" "tuple" = some true := by decide +kernel
theorem p_arec {cs : List Cl3} {s : Sto} (h : 2 ≤ cs.length ∧ cs.length ≤ 6) : f_are_calls [.lst (cs.map cD)] s = .ok (.bl true) s := by
  have i1 : bIsO parT parA csT [.lst (cs.map cD), .ty "list"] s = .ok (.bl true) s := iso_ty (t := "list") rfl kit_ll
  have hl1 : (2 : Int) ≤ cs.length := by omega
  have hl2 : (cs.length : Int) ≤ 6 := by omega
  have c1 := lcL_map (s := s) (δ := [some (.lst (cs.map cD)), none]) (t := tgN 1) (e := dAndV (dBi (bIsO parT parA csT) (aCons (dVar 1) (aCons (dC (.ty "tuple")) aNil))) (dOp oEq (dBi bLen (aCons (dVar 1) aNil)) (dC (.int 3)))) (fun _ => D.bl true) (cs.map cD) [] (by rw [lim_eq]; simp; omega) (by
    intro d hd
    obtain ⟨c, hc, rfl⟩ := List.mem_map.mp hd
    refine ⟨_, rfl, ?_⟩
    have i2 : bIsO parT parA csT [cD c, .ty "tuple"] s = .ok (.bl true) s := iso_ty (t := "tuple") rfl kit_tt
    simp [i2]
    simp [cD])
  have a1 : bAll [.lst ([] ++ (cs.map cD).map fun _ => D.bl true)] s = .ok (.bl true) s := bAll_true (by
    intro x hx
    rw [List.nil_append] at hx
    obtain ⟨_, _, e⟩ := List.mem_map.mp hx
    exact e.symm)
  have key : g_are_calls [some (.lst (cs.map cD)), none] s = .rt (.bl true) s := by
    unfold g_are_calls
    refine seq_step (δ' := [some (.lst (cs.map cD)), none]) (s' := s) (by simp [i1, hl1, hl2]) ?_
    simp only [sRet_eq, dBi_eq, aCons_eq, dLc_eq, itAny_eq, dVar_eq, List.getElem?_cons_zero, bind_ok, wipeE_cons, wipeE_nil, List.set, aNil_eq] at c1 ⊢
    rw [c1]
    simp only [bind_ok, a1, out_ok]
  show finO s.length (g_are_calls [some (.lst (cs.map cD)), none] s) = _
  rw [key]
  simp
theorem p_rises0 {c : Cl3} {s : Sto} (h : c.2.1 ≤ c.2.2) : f_rises [.non, cD c] s = .ok (.bl true) s := by
  have h' : ¬ c.2.2 < c.2.1 := by omega
  simp [f_rises, mkF, g_rises, cD, h']
theorem p_rises1 {b c : Cl3} {s : Sto} (h : c.2.1 ≤ c.2.2) (h1 : b.1 ≠ c.1) (h2 : b.2.2 < c.2.1) : f_rises [cD b, cD c] s = .ok (.bl true) s := by
  have h' : ¬ c.2.2 < c.2.1 := by omega
  have h1' : (b.1 == c.1) = false := by simpa using h1
  simp [f_rises, mkF, g_rises, cD, h', h1', h2]
theorem trip_loop {A R T B : Ps} {s : Sto} (h : Nt A R T B s) {names : List (List Nat)} (hnm : ∀ z ∈ names, NmOk z ∧ z ∈ A.map (·.1)) {o1 o2 o3 : Option D} : ∀ (cs : List Cl3) (nm : Option (List Nat)) (m : Int) (pv : D) (o5 : Option D),
    (pv = .non ∨ ∃ b : Cl3, pv = cD b ∧ nm = some b.1 ∧ m = b.2.2) → 0 ≤ m → Rise names nm m cs → ∃ pv' p5, forL (tgN 5) g_Net_add_trip_b1 (cs.map cD) [some (.loc 0), o1, o2, o3, some pv, o5] s = .nx [some (.loc 0), o1, o2, o3, some pv', p5] s
  | [], nm, m, pv, o5, _, _, _ => ⟨pv, o5, rfl⟩
  | c :: cs, nm, m, pv, o5, hp, hm, hr => by
    obtain ⟨r1, r2, r3, r4, r5, r6⟩ := hr
    obtain ⟨k1, k2⟩ := hnm _ r1
    obtain ⟨pv', p5, e⟩ := trip_loop h hnm (o1 := o1) (o2 := o2) (o3 := o3) cs (some c.1) c.2.2 (cD c) (some (cD c)) (.inr ⟨c, rfl, rfl, rfl⟩) (by omega) r6
    refine ⟨pv', p5, ?_⟩
    have e1 := p_nstop h k1 k2
    have e2 := p_need (a := c.2.1) (lo := 0) (hi := 2879) (s := s) (by omega)
    have e3 := p_need (a := c.2.2) (lo := 0) (hi := 2879) (s := s) (by omega)
    have e4 : f_rises [pv, cD c] s = .ok (.bl true) s := by
      rcases hp with rfl | ⟨b, rfl, rfl, rfl⟩
      · exact p_rises0 r4
      · exact p_rises1 r4 (r2 _ rfl) r3
    have q0 : oIx (cD c) (.int 0) s = .ok (.str c.1) s := by simp [cD]
    have q1 : oIx (cD c) (.int 1) s = .ok (.int c.2.1) s := by simp [cD]
    have q2 : oIx (cD c) (.int 2) s = .ok (.int c.2.2) s := by simp [cD]
    rw [List.map_cons, forL_next (δ1 := [some (.loc 0), o1, o2, o3, some pv, some (cD c)]) (δ2 := [some (.loc 0), o1, o2, o3, some (cD c), some (cD c)]) (s2 := s) rfl (by
      simp [g_Net_add_trip_b1, dMeth_eq, List.lookup, h.o, e1, e2, e3, e4, q0, q1, q2])]
    exact e
theorem p_addtrip {A R T B : Ps} {z : List Nat} {names : List (List Nat)} {cs : List Cl3} {m : Int} (hz : NmOk z) (hn : z ∉ B.map (·.1)) (hl : B.length < 10) (hR : all3 ∈ R.map (·.1)) (hnm : ∀ z ∈ names, NmOk z ∧ z ∈ A.map (·.1)) (hm : 0 ≤ m) (hr : Rise names none m cs) (hc : 2 ≤ cs.length ∧ cs.length ≤ 6) :
    f_Net_add_trip [.loc 0, .str z, .str all3, .lst (cs.map cD)] (NetS A R T B) = .ok .non (NetS A R T (B ++ [(z, trD cs)])) := by
  have e1 := p_fresh (n := 5) (s := NetS A R T B) hz rfl hn
  have e2 := p_nrule (s := NetS A R T B) nt0 nm_all3 hR
  have e3 := p_arec (s := NetS A R T B) hc
  have e5 := p_room (P := B) (n := 5) (m := 10) (s := NetS A R T B) rfl (by omega)
  obtain ⟨e6, e7⟩ := set_new (d := trD cs) hn
  obtain ⟨pv', p5, e4⟩ := trip_loop (s := NetS A R T B) nt0 hnm (o1 := some (.str z)) (o2 := some (.str all3)) (o3 := some (.lst (cs.map cD))) cs none m .non none (.inl rfl) hm hr
  have key : g_Net_add_trip [some (.loc 0), some (.str z), some (.str all3), some (.lst (cs.map cD)), none, none] (NetS A R T B) = .nx [some (.loc 0), some (.str z), some (.str all3), some (.lst (cs.map cD)), some pv', p5] (NetS A R T (B ++ [(z, trD cs)])) := by
    unfold g_Net_add_trip
    refine seq_step (δ' := [some (.loc 0), some (.str z), some (.str all3), some (.lst (cs.map cD)), none, none]) (s' := NetS A R T B) (by simp [e1]) ?_
    refine seq_step (δ' := [some (.loc 0), some (.str z), some (.str all3), some (.lst (cs.map cD)), none, none]) (s' := NetS A R T B) (by simp [dMeth_eq, List.lookup, e2]) ?_
    refine seq_step (δ' := [some (.loc 0), some (.str z), some (.str all3), some (.lst (cs.map cD)), none, none]) (s' := NetS A R T B) (by simp [e3]) ?_
    refine seq_step (δ' := [some (.loc 0), some (.str z), some (.str all3), some (.lst (cs.map cD)), some .non, none]) (s' := NetS A R T B) (by simp) ?_
    refine seq_step (δ' := [some (.loc 0), some (.str z), some (.str all3), some (.lst (cs.map cD)), some pv', p5]) (s' := NetS A R T B) (by
      simp only [sFor_eq, itAny_eq, dVar_eq, List.getElem?_cons_succ, List.getElem?_cons_zero, bind_ok, out_ok]
      exact e4) ?_
    refine seq_step (δ' := [some (.loc 0), some (.str z), some (.str all3), some (.lst (cs.map cD)), some pv', p5]) (s' := NetS A R T B) (by simp [e5]) ?_
    have hl2 : B.length < 1000 := by omega
    simp only [trD] at e7
    simp [lim_eq, hl2, e6, e7, trD]
  show finO 6 (g_Net_add_trip [some (.loc 0), some (.str z), some (.str all3), some (.lst (cs.map cD)), none, none] (NetS A R T B)) = _
  rw [key]
  rfl
end Rb
namespace Rb
open PySem PySem.Spec L2 Mp
/-! ### zones put together -/
theorem or_step : ∀ b : Fin 64, ∀ z ∈ zs6, 0 ≤ orZ (b.val : Int) z ∧ orZ (b.val : Int) z < 64 ∧ ∀ y ∈ zs6, inZ (orZ (b.val : Int) z) y = (inZ (b.val : Int) y || y == z) := by decide +kernel
theorem inZ0 : ∀ y ∈ zs6, inZ 0 y = false := by decide
theorem or_all : ∀ (L : List Int) (a : Int), 0 ≤ a ∧ a < 64 → (∀ z ∈ L, z ∈ zs6) → 0 ≤ L.foldl orZ a ∧ L.foldl orZ a < 64 ∧ ∀ y ∈ zs6, inZ (L.foldl orZ a) y = (inZ a y || decide (y ∈ L))
  | [], a, ha, _ => ⟨ha.1, ha.2, fun y _ => by simp⟩
  | z :: L, a, ha, h => by
    obtain ⟨f, hf⟩ : ∃ f : Fin 64, (f.val : Int) = a := ⟨⟨a.toNat, by omega⟩, by simp; omega⟩
    obtain ⟨s1, s2, s3⟩ := or_step f z (h z List.mem_cons_self)
    rw [hf] at s1 s2 s3
    obtain ⟨g1, g2, g3⟩ := or_all L (orZ a z) ⟨s1, s2⟩ fun y hy => h y (List.mem_cons_of_mem _ hy)
    refine ⟨g1, g2, fun y hy => ?_⟩
    rw [List.foldl_cons, g3 y hy, s3 y hy]
    by_cases e : y = z
    · simp [e]
    · have : (y == z) = false := by simpa using e
      simp [e, this]
theorem zonesOf_lt {b : Int} : (zonesOf b).Pairwise (· < ·) := List.Pairwise.filter _ (by decide)
theorem zones_or {L : List Int} (h : ∀ z ∈ L, z ∈ zs6) : zonesOf (L.foldl orZ 0) = sortI L := by
  obtain ⟨g1, g2, g3⟩ := or_all L 0 (by omega) h
  refine lt_uniq zonesOf_lt sortI_lt fun z => ?_
  rw [mem_sortI, zonesOf, List.mem_filter]
  constructor
  · rintro ⟨a, b⟩
    rw [g3 z a, inZ0 z a] at b
    simpa using b
  · intro a
    refine ⟨h z a, ?_⟩
    rw [g3 z (h z a)]
    simp [a]
theorem or_rng {L : List Int} (h : ∀ z ∈ L, z ∈ zs6) : 0 ≤ L.foldl orZ 0 ∧ L.foldl orZ 0 < 64 := ⟨(or_all L 0 (by omega) h).1, (or_all L 0 (by omega) h).2.1⟩
theorem sum_all : ∀ b : Fin 64, ((zonesOf (b.val : Int)).map zb).sum = (b.val : Int) := by decide +kernel
theorem sum_or {L : List Int} (h : ∀ z ∈ L, z ∈ zs6) : ((sortI L).map zb).sum = L.foldl orZ 0 := by
  obtain ⟨g1, g2⟩ := or_rng h
  obtain ⟨f, hf⟩ : ∃ f : Fin 64, (f.val : Int) = L.foldl orZ 0 := ⟨⟨(L.foldl orZ 0).toNat, by omega⟩, by simp; omega⟩
  have := sum_all f
  rw [hf, zones_or h] at this
  exact this
theorem sort_id {L : List Int} (h : L.Pairwise (· < ·)) : sortI L = L := lt_uniq sortI_lt h fun z => mem_sortI
theorem p_lbits {L : List Int} {s : Sto} (h : ∀ z ∈ L, z ∈ zs6) (hl : L.length ≤ 1000) : f__law_bits [.lst (L.map D.int)] s = .ok (.int ((L.map zb).sum)) s := by
  have c := lcL_map (s := s) (δ := [some (.lst (L.map D.int)), none]) (t := tgN 1) (e := dOp oIx (dLst (aCons (dC (.int 1)) (aCons (dC (.int 2)) (aCons (dC (.int 4)) (aCons (dC (.int 8)) (aCons (dC (.int 16)) (aCons (dC (.int 32)) aNil))))))) (dOp oSub (dVar 1) (dC (.int 1)))) (fun d => match d with | .int z => .int (zb z) | _ => .non) (L.map D.int) [] (by rw [lim_eq]; simp; omega) (by
    intro d hd
    obtain ⟨z, hz, rfl⟩ := List.mem_map.mp hd
    refine ⟨_, rfl, ?_⟩
    rcases zs6_mem (h z hz) with e | e | e | e | e | e <;> subst e <;> simp [lim_eq, zb])
  have e2 : (L.map D.int).map (fun d => match d with | .int z => D.int (zb z) | _ => .non) = (L.map zb).map D.int := by
    rw [List.map_map, List.map_map]
    rfl
  rw [e2, List.nil_append] at c
  have key : g__law_bits [some (.lst (L.map D.int)), none] s = .rt (.int ((L.map zb).sum)) s := by
    unfold g__law_bits
    simp only [sRet_eq, dBi_eq, aCons_eq, dLc_eq, itAny_eq, dVar_eq, List.getElem?_cons_zero, bind_ok, wipeE_cons, wipeE_nil, List.set, aNil_eq] at c ⊢
    rw [c]
    simp only [bind_ok, bSum_lst, intsOf_map, out_ok]
  show finO s.length (g__law_bits [some (.lst (L.map D.int)), none] s) = _
  rw [key]
  simp
theorem p_lbitsS {L : List Int} {s : Sto} (h : ∀ z ∈ L, z ∈ zs6) (hs : L.Pairwise (· < ·)) (hl : L.length ≤ 1000) : f__law_bits [.lst (L.map D.int)] s = .ok (.int (L.foldl orZ 0)) s := by
  rw [p_lbits h hl]
  have := sum_or h
  rw [sort_id hs] at this
  rw [this]
theorem p_zbits {L : List Int} {s : Sto} (h : ∀ z ∈ L, z ∈ zs6) : f_zone_bits [.lst (L.map D.int)] s = .ok (.int (L.foldl orZ 0)) s := by
  obtain ⟨z', e⟩ := zb_loop (s := s) (a := some (.lst (L.map D.int))) L 0 none (fun z hz => by
    have := zs6_mem (h z hz)
    omega)
  simp [f_zone_bits, mkF, g_zone_bits, e]
theorem p_whole {i : Int} {s : Sto} : f__law_whole [.int i] s = .ok (.bl true) s := by
  have i1 : bIsO parT parA csT [.int i, .ty "int"] s = .ok (.bl true) s := iso_ty (t := "int") rfl kit_ii
  have i2 : bIsO parT parA csT [.int i, .ty "bool"] s = .ok (.bl false) s := iso_ty (t := "int") rfl kit_ib
  simp [f__law_whole, mkF, g__law_whole, i1, i2]
/-! ### stops and their zones -/
abbrev Zs := List (List Nat × Int)
def stA (P : Zs) : Ps := P.map fun p => (p.1, .tup [.int p.2, .int 3])
def zn (P : Zs) (z : List Nat) : Int := match P.find? (fun p => p.1 == z) with
  | some p => p.2
  | none => 1
theorem stA_keys {P : Zs} : (stA P).map (·.1) = P.map (·.1) := by
  unfold stA
  rw [List.map_map]
  rfl
theorem zn_at {z : List Nat} : ∀ {P : Zs}, z ∈ P.map (·.1) → ∃ i : Nat, (P.map fun p => D.str p.1).findIdx? (fun y => eqF y (.str z)) = some i ∧ (P.map (·.2))[i]? = some (zn P z) ∧ (z, zn P z) ∈ P
  | [], h => by cases h
  | u :: P, h => by
    by_cases e : u.1 = z
    · refine ⟨0, ?_, ?_, ?_⟩
      · rw [List.map_cons, List.findIdx?_cons]
        have : eqF (.str u.1) (.str z) = true := by show (u.1 == z) = true; simpa using e
        rw [this]
        rfl
      · simp [zn, e]
      · have : zn (u :: P) z = u.2 := by simp [zn, e]
        rw [this, ← e]
        exact List.mem_cons_self
    · have h' : z ∈ P.map (·.1) := by
        rw [List.map_cons] at h
        rcases List.mem_cons.mp h with q | q
        · exact absurd q.symm e
        · exact q
      obtain ⟨i, h1, h2, h3⟩ := zn_at h'
      have ez : zn (u :: P) z = zn P z := by
        have : (u.1 == z) = false := by simpa using e
        simp [zn, this]
      refine ⟨i + 1, ?_, ?_, ?_⟩
      · rw [List.map_cons, List.findIdx?_cons]
        have : eqF (.str u.1) (.str z) = false := by show (u.1 == z) = false; simpa using e
        rw [this, h1]
        rfl
      · rw [List.map_cons, List.getElem?_cons_succ, h2, ez]
      · rw [ez]
        exact List.mem_cons_of_mem _ h3
theorem p_index {P : Zs} {z : List Nat} {s : Sto} (h : z ∈ P.map (·.1)) : ∃ i : Nat, mIndex (.lst ((P.map (·.1)).map D.str)) [.str z] s = .ok (.int (i : Int)) s ∧ (P.map (·.2))[i]? = some (zn P z) := by
  obtain ⟨i, h1, h2, h3⟩ := zn_at h
  refine ⟨i, ?_, h2⟩
  have e : (P.map (·.1)).map D.str = P.map fun p => D.str p.1 := by rw [List.map_map]; rfl
  have f : ((P.map fun p => D.str p.1).all flatD) = true := by
    rw [List.all_eq_true]
    intro x hx
    obtain ⟨p, _, rfl⟩ := List.mem_map.mp hx
    rfl
  rw [e]
  show (if (flatD (.str z) && (P.map fun p => D.str p.1).all flatD) = true then _ else _) = _
  rw [f, h1]
  rfl
theorem cut_map {α β : Type} {f : α → β} {xs : List α} {lo hi : Option Int} : cutL (xs.map f) lo hi = (cutL xs lo hi).map f := by
  unfold cutL
  rw [List.length_map, List.map_take, List.map_drop]
theorem cut_sub {α : Type} {xs : List α} {lo hi : Option Int} {x : α} (h : x ∈ cutL xs lo hi) : x ∈ xs := by
  unfold cutL at h
  exact List.mem_of_mem_drop (List.mem_of_mem_take h)
theorem cut_len {α : Type} {xs : List α} {lo hi : Option Int} : (cutL xs lo hi).length ≤ xs.length := by
  unfold cutL
  rw [List.length_take, List.length_drop]
  omega
structure ZsOk (P : Zs) : Prop where
  nm : ∀ p ∈ P, NmOk p.1
  nd : (P.map (·.1)).Nodup
  zz : ∀ p ∈ P, p.2 ∈ zs6
/-- the zones of the calls from lo to hi -/
def segZ (P : Zs) (cs : List Cl3) (lo hi : Int) : List Int := (cutL cs (some lo) (some (hi + 1))).map fun c => zn P c.1
theorem segZ_ok {P : Zs} (hP : ZsOk P) {cs : List Cl3} (hc : ∀ c ∈ cs, c.1 ∈ P.map (·.1)) {lo hi : Int} : ∀ z ∈ segZ P cs lo hi, z ∈ zs6 := by
  intro z hz
  obtain ⟨c, h1, rfl⟩ := List.mem_map.mp hz
  obtain ⟨i, _, _, h3⟩ := zn_at (hc c (cut_sub h1))
  exact hP.zz _ h3
theorem p_zof {P : Zs} {R T B : Ps} {s : Sto} (hP : ZsOk P) (h : Nt (stA P) R T B s) (ndB : (B.map (·.1)).Nodup) {z : List Nat} (hz : NmOk z) {cs : List Cl3} (hm : (z, trD cs) ∈ B) (hc : ∀ c ∈ cs, c.1 ∈ P.map (·.1)) (hl : cs.length ≤ 6) {b o : Int} (hb : 0 ≤ b) (hbo : b < o) (ho : o < cs.length) :
    f_zones_of [.loc 0, .str z, .int b, .int o] s = .ok (.int ((segZ P cs b o).foldl orZ 0)) s := by
  have e1 := p_ncalls h ndB hz hm
  have a1 : f_is_among [.int b, .int 0, .int ((cs.length : Int) - 2)] s = .ok (.bl true) s := by
    rw [p_among]
    simp; omega
  have a2 : f_is_among [.int o, .int (b + 1), .int ((cs.length : Int) - 1)] s = .ok (.bl true) s := by
    rw [p_among]
    simp; omega
  have c := lcL_map (s := s) (δ := [some (.loc 0), some (.str z), some (.int b), some (.int o), some (.lst (cs.map cD)), none]) (t := tgN 5) (e := dMeth 5 [(19, f_Net_zone)] (dVar 0) (aCons (dOp oIx (dVar 5) (dC (.int 0))) aNil)) (fun d => match d with | .tup [.str n, _, _] => .int (zn P n) | _ => .non) ((cutL cs (some b) (some (o + 1))).map cD) [] (by
      have := cut_len (xs := cs) (lo := some b) (hi := some (o + 1))
      rw [lim_eq]; simp; omega) (by
    intro d hd
    obtain ⟨x, hx, rfl⟩ := List.mem_map.mp hd
    refine ⟨_, rfl, ?_⟩
    have hx' := hc x (cut_sub hx)
    obtain ⟨i, _, _, h3⟩ := zn_at hx'
    have q := p_zone (w := 3) (s := s) h (by rw [stA_keys]; exact hP.nd) (hP.nm _ h3) (List.mem_map_of_mem (f := fun p : List Nat × Int => (p.1, D.tup [.int p.2, .int 3])) h3)
    simp [dMeth_eq, List.lookup, h.o, cD]
    exact q)
  have e2 : ((cutL cs (some b) (some (o + 1))).map cD).map (fun d => match d with | .tup [.str n, _, _] => D.int (zn P n) | _ => .non) = (segZ P cs b o).map D.int := by
    unfold segZ
    rw [List.map_map, List.map_map]
    rfl
  rw [e2, List.nil_append] at c
  have zbt := p_zbits (s := s) (segZ_ok hP hc (lo := b) (hi := o))
  have key : g_zones_of [some (.loc 0), some (.str z), some (.int b), some (.int o), none, none] s = .rt (.int ((segZ P cs b o).foldl orZ 0)) s := by
    unfold g_zones_of
    refine seq_step (δ' := [some (.loc 0), some (.str z), some (.int b), some (.int o), some (.lst (cs.map cD)), none]) (s' := s) (by simp [dMeth_eq, List.lookup, h.o, e1]) ?_
    refine seq_step (δ' := [some (.loc 0), some (.str z), some (.int b), some (.int o), some (.lst (cs.map cD)), none]) (s' := s) (by simp [a1, a2]) ?_
    simp only [sRet_eq, dCall_eq, aCons_eq, dLc_eq, itAny_eq, dSl_eq, pSome_eq, dOp_eq, dC_eq, oAdd_int, oSl, lqOf_lst, dVar_eq, List.getElem?_cons_succ, List.getElem?_cons_zero, bind_ok, wipeE_cons, wipeE_nil, List.set, aNil_eq, cut_map] at c ⊢
    rw [c]
    simp only [bind_ok, zbt, out_ok]
  show finO s.length (g_zones_of [some (.loc 0), some (.str z), some (.int b), some (.int o), none, none] s) = _
  rw [key]
  simp
end Rb
namespace Rb
open PySem PySem.Spec L2 Mp
/-! ### the net is made -/
theorem ns_loop {o0 o1 o3 o7 o8 o9 o10 : Option D} {V : List Int} : ∀ (Q Pre : Zs) (o5 o6 : Option D), V = (Pre ++ Q).map (·.2) → ((Pre ++ Q).map (·.1)).Nodup → (∀ p ∈ Q, NmOk p.1 ∧ p.2 ∈ zs6) → (Pre ++ Q).length ≤ 8 →
    ∃ p5 p6, forL (tgT [tgN 5, tgN 6]) g__law_net_b1 (enD Pre.length (Q.map fun p => D.str p.1)) [o0, o1, some (.lst (V.map D.int)), o3, some (.loc 0), o5, o6, o7, o8, o9, o10] (NetS (stA Pre) [] [] []) =
      .nx [o0, o1, some (.lst (V.map D.int)), o3, some (.loc 0), p5, p6, o7, o8, o9, o10] (NetS (stA (Pre ++ Q)) [] [] [])
  | [], Pre, o5, o6, _, _, _, _ => ⟨o5, o6, by simp [enD]⟩
  | (z, v) :: Q, Pre, o5, o6, hV, nd, hQ, hl => by
    obtain ⟨hz, hv⟩ := hQ _ List.mem_cons_self
    have e1 : Pre ++ (z, v) :: Q = (Pre ++ [(z, v)]) ++ Q := by simp
    have hn : z ∉ (stA Pre).map (·.1) := by
      rw [stA_keys]
      rw [List.map_append, List.map_cons] at nd
      have := (List.nodup_append.mp nd).2.2
      intro q
      exact this _ q _ List.mem_cons_self rfl
    have v6 : 1 ≤ v ∧ v ≤ 6 := by
      have := zs6_mem hv
      simp only at this
      omega
    have k1 := p_addstop (A := stA Pre) (R := []) (T := []) (B := []) hz hn (by rw [List.length_append, List.length_cons] at hl; simp only [stA, List.length_map]; omega) v6
    have k2 : stA Pre ++ [(z, .tup [.int v, .int 3])] = stA (Pre ++ [(z, v)]) := by simp [stA]
    simp only at k1
    rw [k2] at k1
    rw [e1] at hV nd hl ⊢
    obtain ⟨p5, p6, e⟩ := ns_loop Q (Pre ++ [(z, v)]) (some (.int (Pre.length : Int))) (some (.str z)) hV nd (fun p hp => hQ p (List.mem_cons_of_mem _ hp)) hl
    have el : (Pre ++ [(z, v)]).length = Pre.length + 1 := by simp
    rw [el] at e
    refine ⟨p5, p6, ?_⟩
    have hi : (V.map D.int)[Pre.length]? = some (.int v) := by
      rw [hV]
      simp
    rw [List.map_cons]
    show forL _ _ (.tup [.int (Pre.length : Int), .str z] :: enD (Pre.length + 1) (Q.map fun p => D.str p.1)) _ _ = _
    rw [forL_next (δ1 := [o0, o1, some (.lst (V.map D.int)), o3, some (.loc 0), some (.int (Pre.length : Int)), some (.str z), o7, o8, o9, o10]) (δ2 := [o0, o1, some (.lst (V.map D.int)), o3, some (.loc 0), some (.int (Pre.length : Int)), some (.str z), o7, o8, o9, o10]) (s2 := NetS (stA (Pre ++ [(z, v)])) [] [] []) rfl (by
      unfold g__law_net_b1
      simp only [sDrop_eq, dMeth_eq, List.lookup, dVar_eq, List.getElem?_cons_succ, List.getElem?_cons_zero, bind_ok, aCons_eq, aNil_eq, dOp_eq, dC_eq, oIx_lst, atI_natc, hi, obOf_loc]
      simp [k1])]
    exact e
def tkT (ts : List Tk) : Ps := ts.map Tk.n2
theorem tkT_keys {ts : List Tk} : (tkT ts).map (·.1) = ts.map Tk.nm := by
  unfold tkT
  rw [List.map_map]
  rfl
theorem nt_loop {A R : Ps} {o0 o1 o2 o3 o5 o10 : Option D} : ∀ (us ts : List Tk) (o6 o7 o8 o9 : Option D), (∀ t ∈ us, t.ok) → ((ts ++ us).map Tk.nm).Nodup → (ts ++ us).length ≤ 3 → ∃ p6 p7 p8 p9,
    forL (tgT [tgN 6, tgN 7, tgN 8, tgN 9]) g__law_net_b2 (us.map Tk.d) [o0, o1, o2, o3, some (.loc 0), o5, o6, o7, o8, o9, o10] (NetS A R (tkT ts) []) = .nx [o0, o1, o2, o3, some (.loc 0), o5, p6, p7, p8, p9, o10] (NetS A R (tkT (ts ++ us)) [])
  | [], ts, o6, o7, o8, o9, _, _, _ => ⟨o6, o7, o8, o9, by simp⟩
  | t :: us, ts, o6, o7, o8, o9, ho, nd, hl => by
    have e1 : ts ++ t :: us = (ts ++ [t]) ++ us := by simp
    rw [e1] at nd hl ⊢
    have hn : t.nm ∉ (tkT ts).map (·.1) := by
      rw [tkT_keys]
      rw [List.map_append, List.map_append] at nd
      have := (List.nodup_append.mp (List.nodup_append.mp nd).1).2.2
      intro q
      exact this _ q _ (by simp) rfl
    have k1 := p_addticket (A := A) (R := R) (B := []) (ho t List.mem_cons_self) hn (by simp at hl; simp only [tkT, List.length_map]; omega)
    have k2 : tkT ts ++ [t.n2] = tkT (ts ++ [t]) := by simp [tkT]
    rw [k2] at k1
    obtain ⟨p6, p7, p8, p9, e⟩ := nt_loop (A := A) (R := R) us (ts ++ [t]) (some (.str t.nm)) (some (.int t.pr)) (some (.int t.la)) (some (.lst ((zonesOf t.b).map D.int))) (fun y hy => ho y (List.mem_cons_of_mem _ hy)) nd hl
    refine ⟨p6, p7, p8, p9, ?_⟩
    rw [List.map_cons, forL_next (δ1 := [o0, o1, o2, o3, some (.loc 0), o5, some (.str t.nm), some (.int t.pr), some (.int t.la), some (.lst ((zonesOf t.b).map D.int)), o10]) (δ2 := [o0, o1, o2, o3, some (.loc 0), o5, some (.str t.nm), some (.int t.pr), some (.int t.la), some (.lst ((zonesOf t.b).map D.int)), o10]) (s2 := NetS A R (tkT (ts ++ [t])) []) rfl (by
      simp [g__law_net_b2, dMeth_eq, List.lookup, k1])]
    exact e
/-- the trips, by what their calls are -/
def trB (C : Nat → List Cl3) : Nat → List (List Nat) → Ps
  | _, [] => []
  | i, z :: zs => (z, trD (C i)) :: trB C (i + 1) zs
theorem trB_keys {C : Nat → List Cl3} : ∀ {i : Nat} {zs : List (List Nat)}, (trB C i zs).map (·.1) = zs
  | _, [] => rfl
  | i, z :: zs => by
    show z :: (trB C (i + 1) zs).map (·.1) = _
    rw [trB_keys]
theorem trB_app {C : Nat → List Cl3} : ∀ {i : Nat} {zs : List (List Nat)} {z : List Nat}, trB C i (zs ++ [z]) = trB C i zs ++ [(z, trD (C (i + zs.length)))]
  | i, [], z => rfl
  | i, y :: zs, z => by
    show (y, trD (C i)) :: trB C (i + 1) (zs ++ [z]) = (y, trD (C i)) :: (trB C (i + 1) zs ++ _)
    rw [trB_app (i := i + 1), List.length_cons, show i + 1 + zs.length = i + (zs.length + 1) by omega]
theorem trB_at {C : Nat → List Cl3} {z : List Nat} : ∀ {i j : Nat} {zs : List (List Nat)}, zs[j]? = some z → (z, trD (C (i + j))) ∈ trB C i zs
  | i, j, [], h => by cases h
  | i, 0, y :: zs, h => by
    cases h
    exact List.mem_cons_self
  | i, j + 1, y :: zs, h => by
    have := trB_at (C := C) (i := i + 1) (j := j) (zs := zs) h
    rw [show i + 1 + j = i + (j + 1) by omega] at this
    exact List.mem_cons_of_mem _ this
theorem bel_n {n : Nat} : ∀ {P : Ps}, (∀ p ∈ P, below n p.2 = true) → belows n (vl P) = true
  | [], _ => rfl
  | p :: P, h => by
    show (below n p.2 && belows n (vl P)) = true
    rw [h p List.mem_cons_self, bel_n fun q hq => h q (List.mem_cons_of_mem _ hq)]
    rfl
theorem bel_k {n : Nat} : ∀ {P : Ps}, belows n (ky P) = true
  | [] => rfl
  | p :: P => by
    show (below n (.str p.1) && belows n (ky P)) = true
    rw [bel_k]
    rfl
theorem bel_tr {C : Nat → List Cl3} : ∀ {i : Nat} {zs : List (List Nat)}, ∀ p ∈ trB C i zs, below 6 p.2 = true
  | i, [], p, h => by cases h
  | i, z :: zs, p, h => by
    rcases List.mem_cons.mp h with rfl | h
    · show below 6 (trD (C i)) = true
      have := below_cD (n := 6) (C i)
      simp [trD, below, belows, this]
    · exact bel_tr p h
theorem sb_net {P : Zs} {ts : List Tk} {C : Nat → List Cl3} {i : Nat} {zs : List (List Nat)} {R : Ps} (hR : ∀ p ∈ R, below 6 p.2 = true) : Sb (NetS (stA P) R (tkT ts) (trB C i zs)) := by
  have a1 : belows 6 (vl (stA P)) = true := bel_n fun p hp => by
    obtain ⟨q, _, rfl⟩ := List.mem_map.mp hp
    rfl
  have a2 : belows 6 (vl (tkT ts)) = true := bel_n fun p hp => by
    obtain ⟨q, _, rfl⟩ := List.mem_map.mp hp
    have := below_ints (n := 6) (zonesOf q.b)
    simp [Tk.n2, below, belows, this]
  have a3 : belows 6 (vl (trB C i zs)) = true := bel_n bel_tr
  have a4 : belows 6 (vl R) = true := bel_n hR
  unfold Sb
  simp only [List.all_cons, List.all_nil, List.length_cons, List.length_nil, Bool.and_true]
  simp [Cell.below, bel_k, a1, a2, a3, a4, below, belows]
/-- the calls that the script draws -/
def CsOk (ns : List Int) (names : List (List Nat)) (C : Nat → List Cl3) : Prop := ∀ i, i < 100 → 2 ≤ (C i).length ∧ (C i).length ≤ 6 ∧ (∃ m, 0 ≤ m ∧ Rise names none m (C i)) ∧ ∀ s : Sto, Sb s → f__law_calls [.scr ns, .int (50 + 8 * (i : Int)), .lst (names.map D.str)] s = .ok (.lst ((C i).map cD)) s
theorem cs_ex {ns : List Int} {names : List (List Nat)} (nd : names.Nodup) (hn : 2 ≤ names.length ∧ names.length ≤ 5) : ∃ C, CsOk ns names C := by
  have h : ∀ i : Nat, ∃ cs : List Cl3, i < 100 → 2 ≤ cs.length ∧ cs.length ≤ 6 ∧ (∃ m, 0 ≤ m ∧ Rise names none m cs) ∧ ∀ s : Sto, Sb s → f__law_calls [.scr ns, .int (50 + 8 * (i : Int)), .lst (names.map D.str)] s = .ok (.lst (cs.map cD)) s := fun i => by
    by_cases hi : i < 100
    · obtain ⟨cs, h1, h2, h3, h4⟩ := p_calls (ns := ns) (k := 50 + 8 * (i : Int)) (by omega) nd hn
      exact ⟨cs, fun _ => ⟨h1, h2, h3, h4⟩⟩
    · exact ⟨[], fun h => absurd h hi⟩
  obtain ⟨C, hC⟩ := Classical.axiomOfChoice h
  exact ⟨C, hC⟩
abbrev R1 : Ps := [(all3, .obj 18 [] [])]
theorem nr_loop {ns : List Int} {P : Zs} {ts : List Tk} {C : Nat → List Cl3} {o2 o3 o7 o8 o9 o10 : Option D} (hP : ZsOk P) (hC : CsOk ns (P.map (·.1)) C) : ∀ (zs pre : List (List Nat)) (o5 o6 : Option D), (pre ++ zs).Nodup → (∀ z ∈ zs, NmOk z) → (pre ++ zs).length ≤ 10 →
    ∃ p5 p6, forL (tgT [tgN 5, tgN 6]) g__law_net_b3 (enD pre.length (zs.map D.str)) [some (.scr ns), some (.lst ((P.map (·.1)).map D.str)), o2, o3, some (.loc 0), o5, o6, o7, o8, o9, o10] (NetS (stA P) R1 (tkT ts) (trB C 0 pre)) =
      .nx [some (.scr ns), some (.lst ((P.map (·.1)).map D.str)), o2, o3, some (.loc 0), p5, p6, o7, o8, o9, o10] (NetS (stA P) R1 (tkT ts) (trB C 0 (pre ++ zs)))
  | [], pre, o5, o6, _, _, _ => ⟨o5, o6, by simp [enD]⟩
  | z :: zs, pre, o5, o6, nd, hz, hl => by
    have e1 : pre ++ z :: zs = (pre ++ [z]) ++ zs := by simp
    have hlp : pre.length < 10 := by rw [List.length_append, List.length_cons] at hl; omega
    have hn : z ∉ (trB C 0 pre).map (·.1) := by
      rw [trB_keys]
      intro q
      exact (List.nodup_append.mp nd).2.2 _ q _ List.mem_cons_self rfl
    obtain ⟨c1, c2, ⟨m, m0, c3⟩, c4⟩ := hC pre.length (by omega)
    have hb : (trB C 0 pre).length < 10 := by
      have := congrArg List.length (trB_keys (C := C) (i := 0) (zs := pre))
      rw [List.length_map] at this
      omega
    have k1 := p_addtrip (A := stA P) (R := R1) (T := tkT ts) (names := P.map (·.1)) (hz z List.mem_cons_self) hn hb (by simp) (by
      intro y hy
      rw [stA_keys]
      refine ⟨?_, hy⟩
      obtain ⟨p, hp, rfl⟩ := List.mem_map.mp hy
      exact hP.nm p hp) m0 c3 ⟨c1, c2⟩
    have k2 : trB C 0 pre ++ [(z, trD (C pre.length))] = trB C 0 (pre ++ [z]) := by rw [trB_app, Nat.zero_add]
    rw [k2] at k1
    have k3 := c4 (NetS (stA P) R1 (tkT ts) (trB C 0 pre)) (sb_net (by simp [below, belows]))
    rw [e1] at nd hl ⊢
    obtain ⟨p5, p6, e⟩ := nr_loop hP hC (o2 := o2) (o3 := o3) (o7 := o7) (o8 := o8) (o9 := o9) (o10 := o10) (ts := ts) zs (pre ++ [z]) (some (.int (pre.length : Int))) (some (.str z)) nd (fun y hy => hz y (List.mem_cons_of_mem _ hy)) hl
    have el : (pre ++ [z]).length = pre.length + 1 := by simp
    rw [el] at e
    refine ⟨p5, p6, ?_⟩
    have cm : cMul 8 (pre.length : Int) = true := cMul_l (by omega)
    rw [List.map_cons]
    show forL _ _ (.tup [.int (pre.length : Int), .str z] :: enD (pre.length + 1) (zs.map D.str)) _ _ = _
    rw [forL_next (δ1 := [some (.scr ns), some (.lst ((P.map (·.1)).map D.str)), o2, o3, some (.loc 0), some (.int (pre.length : Int)), some (.str z), o7, o8, o9, o10]) (δ2 := [some (.scr ns), some (.lst ((P.map (·.1)).map D.str)), o2, o3, some (.loc 0), some (.int (pre.length : Int)), some (.str z), o7, o8, o9, o10]) (s2 := NetS (stA P) R1 (tkT ts) (trB C 0 (pre ++ [z]))) rfl (by
      have mi : oMulA (.int 8) (.int (pre.length : Int)) (NetS (stA P) R1 (tkT ts) (trB C 0 pre)) = .ok (.int (8 * (pre.length : Int))) (NetS (stA P) R1 (tkT ts) (trB C 0 pre)) := by simp [cm]
      unfold g__law_net_b3
      simp only [sDrop_eq, dMeth_eq, List.lookup, dVar_eq, List.getElem?_cons_succ, List.getElem?_cons_zero, bind_ok, aCons_eq, aNil_eq, dOp_eq, dC_eq, dCall_eq, oAdd_int, mi, k3, obOf_loc]
      simp [k1])]
    exact e
theorem p_net {ns : List Int} {P : Zs} {ts : List Tk} {C : Nat → List Cl3} (hP : ZsOk P) (hl : P.length ≤ 8) (hC : CsOk ns (P.map (·.1)) C) (ho : ∀ t ∈ ts, t.ok) (nd : (ts.map Tk.nm).Nodup) (ht : ts.length ≤ 3) :
    ∃ tz : List (List Nat), tz.length ≤ 3 ∧ tz.Nodup ∧ (∀ z ∈ tz, NmOk z ∧ z ≠ nwh) ∧ f__law_net [.scr ns, .lst ((P.map (·.1)).map D.str), .lst ((P.map (·.2)).map D.int), .lst (ts.map Tk.d)] [] = .ok (.tup [.loc 0, .lst (tz.map D.str)]) (NetS (stA P) R1 (tkT ts) (trB C 0 tz)) := by
  have S0 := NetS (stA P) R1 (tkT ts) []
  obtain ⟨x, x0, x1, e1⟩ := p_draw (ns := ns) (k := 41) (s := NetS (stA P) R1 (tkT ts) []) (by omega)
  obtain ⟨many, hm⟩ := Int.eq_ofNat_of_zero_le (a := 1 + x % 3) (by omega)
  obtain ⟨tz, z1, z2, z3, e2⟩ := p_names (ns := ns) (k := 40) (M := 1 + x % 3) (many := many) (s := NetS (stA P) R1 (tkT ts) []) (by omega) (by omega) hm
  obtain ⟨a5, a6, f1⟩ := ns_loop (o0 := some (.scr ns)) (o1 := some (.lst ((P.map (·.1)).map D.str))) (o3 := some (.lst (ts.map Tk.d))) (o7 := none) (o8 := none) (o9 := none) (o10 := none) (V := P.map (·.2)) P [] none none rfl (by simpa using hP.nd) (fun p hp => ⟨hP.nm p hp, hP.zz p hp⟩) (by simpa using hl)
  obtain ⟨b6, b7, b8, b9, f2⟩ := nt_loop (A := stA P) (R := R1) (o0 := some (.scr ns)) (o1 := some (.lst ((P.map (·.1)).map D.str))) (o2 := some (.lst ((P.map (·.2)).map D.int))) (o3 := some (.lst (ts.map Tk.d))) (o5 := a5) (o10 := none) ts [] a6 none none none ho (by simpa using nd) (by simpa using ht)
  obtain ⟨c5, c6, f3⟩ := nr_loop (ts := ts) (o2 := some (.lst ((P.map (·.2)).map D.int))) (o3 := some (.lst (ts.map Tk.d))) (o7 := b7) (o8 := b8) (o9 := b9) (o10 := some (.lst (tz.map D.str))) hP hC tz [] a5 b6 (by simpa using z2) (fun z hz => (z3 z hz).1) (by simp; omega)
  refine ⟨tz, by omega, z2, z3, ?_⟩
  have en : (P.map (·.1)).map D.str = P.map fun p => D.str p.1 := by rw [List.map_map]; rfl
  have key : g__law_net [some (.scr ns), some (.lst ((P.map (·.1)).map D.str)), some (.lst ((P.map (·.2)).map D.int)), some (.lst (ts.map Tk.d)), none, none, none, none, none, none, none] [] = .rt (.tup [.loc 0, .lst (tz.map D.str)]) (NetS (stA P) R1 (tkT ts) (trB C 0 tz)) := by
    unfold g__law_net
    refine seq_step (δ' := [some (.scr ns), some (.lst ((P.map (·.1)).map D.str)), some (.lst ((P.map (·.2)).map D.int)), some (.lst (ts.map Tk.d)), some (.loc 0), none, none, none, none, none, none]) (s' := NetS [] [] [] []) (by simp [p_init]) ?_
    refine seq_step (δ' := [some (.scr ns), some (.lst ((P.map (·.1)).map D.str)), some (.lst ((P.map (·.2)).map D.int)), some (.lst (ts.map Tk.d)), some (.loc 0), a5, a6, none, none, none, none]) (s' := NetS (stA P) [] [] []) (by
      simp only [sFor_eq, itEnum_eq, aCons_eq, aNil_eq, dVar_eq, List.getElem?_cons_succ, List.getElem?_cons_zero, bind_ok, out_ok]
      rw [en] at f1 ⊢
      exact f1) ?_
    refine seq_step (δ' := [some (.scr ns), some (.lst ((P.map (·.1)).map D.str)), some (.lst ((P.map (·.2)).map D.int)), some (.lst (ts.map Tk.d)), some (.loc 0), a5, a6, none, none, none, none]) (s' := NetS (stA P) R1 [] []) (by
      have k := p_addrule (A := stA P) (T := []) (B := [])
      simp only [sDrop_eq, dMeth_eq, List.lookup, dVar_eq, List.getElem?_cons_succ, List.getElem?_cons_zero, bind_ok, aCons_eq, aNil_eq, dC_eq, obOf_loc]
      simp [k]) ?_
    refine seq_step (δ' := [some (.scr ns), some (.lst ((P.map (·.1)).map D.str)), some (.lst ((P.map (·.2)).map D.int)), some (.lst (ts.map Tk.d)), some (.loc 0), a5, b6, b7, b8, b9, none]) (s' := NetS (stA P) R1 (tkT ts) []) (by
      simp only [sFor_eq, itAny_eq, dVar_eq, List.getElem?_cons_succ, List.getElem?_cons_zero, bind_ok, out_ok]
      exact f2) ?_
    refine seq_step (δ' := [some (.scr ns), some (.lst ((P.map (·.1)).map D.str)), some (.lst ((P.map (·.2)).map D.int)), some (.lst (ts.map Tk.d)), some (.loc 0), a5, b6, b7, b8, b9, some (.lst (tz.map D.str))]) (s' := NetS (stA P) R1 (tkT ts) []) (by
      simp only [sSet_eq, dCall_eq, aCons_eq, aNil_eq, dVar_eq, dC_eq, dOp_eq, List.getElem?_cons_succ, List.getElem?_cons_zero, bind_ok, e1]
      simp [e2]) ?_
    refine seq_step (δ' := [some (.scr ns), some (.lst ((P.map (·.1)).map D.str)), some (.lst ((P.map (·.2)).map D.int)), some (.lst (ts.map Tk.d)), some (.loc 0), c5, c6, b7, b8, b9, some (.lst (tz.map D.str))]) (s' := NetS (stA P) R1 (tkT ts) (trB C 0 tz)) (by
      simp only [sFor_eq, itEnum_eq, aCons_eq, aNil_eq, dVar_eq, List.getElem?_cons_succ, List.getElem?_cons_zero, bind_ok, out_ok]
      exact f3) ?_
    simp [lim_eq]
  show finO 0 (g__law_net [some (.scr ns), some (.lst ((P.map (·.1)).map D.str)), some (.lst ((P.map (·.2)).map D.int)), some (.lst (ts.map Tk.d)), none, none, none, none, none, none, none] []) = _
  rw [key]
  rfl
end Rb
namespace Rb
open PySem PySem.Spec L2 Mp
/-! ### what is refused -/
abbrev wNum : List Nat := [110, 117, 109, 98, 101, 114]
abbrev wTrip : List Nat := [116, 114, 105, 112]
abbrev wTick : List Nat := [116, 105, 99, 107, 101, 116]
theorem word10 {s : Sto} : f__law_word [.exc 10] s = .ok (.lst [.str wNum]) s := by
  have key : g__law_word [some (.exc 10), none, none, none] s = .rt (.lst [.str wNum]) s := by rfl
  show finO s.length (g__law_word [some (.exc 10), none, none, none] s) = _
  rw [key]
  simp
theorem word9 {s : Sto} : f__law_word [.exc 9] s = .ok (.lst [.str wTrip]) s := by
  have key : g__law_word [some (.exc 9), none, none, none] s = .rt (.lst [.str wTrip]) s := by rfl
  show finO s.length (g__law_word [some (.exc 9), none, none, none] s) = _
  rw [key]
  simp
theorem word8 {s : Sto} : f__law_word [.exc 8] s = .ok (.lst [.str wTick]) s := by
  have key : g__law_word [some (.exc 8), none, none, none] s = .rt (.lst [.str wTick]) s := by rfl
  show finO s.length (g__law_word [some (.exc 8), none, none, none] s) = _
  rw [key]
  simp
theorem p_refused0 {n b o w : D} {k : Nat} {s : Sto} (h : f_zones_of [.loc 0, n, b, o] s = .exc k s) (hk : ancO parT k 0 = some true) (hw : f__law_word [.exc k] s = .ok w s) : f__law_refused [.int 0, .loc 0, n, b, o] s = .ok w s := by
  have e : g__law_refused_b1 [some (.int 0), some (.loc 0), some n, some b, some o, some .non, none] s = .ex k [some (.int 0), some (.loc 0), some n, some b, some o, some .non, none] s := by
    simp [g__law_refused_b1, h]
  have t := sTry_ex (anc := ancO parT) (c := 0) (i := some 6) (g := sSet 5 (dVar 6)) e hk
  simp at t
  simp [f__law_refused, mkF, g__law_refused, t, hw]
theorem p_refused1 {n b o w : D} {k : Nat} {s : Sto} (h : f_fits [.loc 0, n, .int 1] s = .exc k s) (hk : ancO parT k 0 = some true) (hw : f__law_word [.exc k] s = .ok w s) : f__law_refused [.int 1, .loc 0, n, b, o] s = .ok w s := by
  have e : g__law_refused_b1 [some (.int 1), some (.loc 0), some n, some b, some o, some .non, none] s = .ex k [some (.int 1), some (.loc 0), some n, some b, some o, some .non, none] s := by
    simp [g__law_refused_b1, h]
  have t := sTry_ex (anc := ancO parT) (c := 0) (i := some 6) (g := sSet 5 (dVar 6)) e hk
  simp at t
  simp [f__law_refused, mkF, g__law_refused, t, hw]
/-- no number between bounds near nought -/
def Odd (d : D) : Prop := ∀ (lo hi : Int) (s : Sto), 0 ≤ lo → hi ≤ 100 → f_is_among [d, .int lo, .int hi] s = .ok (.bl false) s
theorem odd_ni {d : D} {t : String} (ht : ∀ s, tyOf s d = some t) (hk : kitB t "int" = some false) : Odd d := by
  intro lo hi s _ _
  have i1 : bIsO parT parA csT [d, .ty "int"] s = .ok (.bl false) s := iso_ty (t := t) (ht s) hk
  simp [f_is_among, mkF, g_is_among, i1]
theorem odd_bl {b : Bool} : Odd (.bl b) := by
  intro lo hi s _ _
  have i1 : bIsO parT parA csT [.bl b, .ty "int"] s = .ok (.bl true) s := iso_ty (t := "bool") rfl kit_bi
  have i2 : bIsO parT parA csT [.bl b, .ty "bool"] s = .ok (.bl true) s := iso_ty (t := "bool") rfl kit_bb
  simp [f_is_among, mkF, g_is_among, i1, i2]
theorem odd_int {i : Int} (h : i < 0 ∨ 100 < i) : Odd (.int i) := by
  intro lo hi s h0 h1
  rw [p_among]
  congr 2
  simp
  omega
theorem p_zbad {A R T B : Ps} {s : Sto} (h : Nt A R T B s) (ndB : (B.map (·.1)).Nodup) {z : List Nat} (hz : NmOk z) {cs : List Cl3} (hm : (z, trD cs) ∈ B) {b o : D}
    (hb : f_is_among [b, .int 0, .int ((cs.length : Int) - 2)] s = .ok (.bl false) s ∨ ∃ i : Int, b = .int i ∧ f_is_among [b, .int 0, .int ((cs.length : Int) - 2)] s = .ok (.bl true) s ∧ f_is_among [o, .int (i + 1), .int ((cs.length : Int) - 1)] s = .ok (.bl false) s) :
    f__law_refused [.int 0, .loc 0, .str z, b, o] s = .ok (.lst [.str wNum]) s := by
  have e1 := p_ncalls h ndB hz hm
  refine p_refused0 (k := 10) ?_ rfl word10
  have key : g_zones_of [some (.loc 0), some (.str z), some b, some o, none, none] s = .ex 10 [some (.loc 0), some (.str z), some b, some o, some (.lst (cs.map cD)), none] s := by
    unfold g_zones_of
    refine seq_step (δ' := [some (.loc 0), some (.str z), some b, some o, some (.lst (cs.map cD)), none]) (s' := s) (by simp [dMeth_eq, List.lookup, h.o, e1]) ?_
    rcases hb with hb | ⟨i, rfl, h1, h2⟩
    · simp [hb]
    · simp [h1, h2]
  show finO s.length (g_zones_of [some (.loc 0), some (.str z), some b, some o, none, none] s) = _
  rw [key]
  simp
/-- no name, or nowhere -/
def OddN (d : D) : Prop := (∀ s, f_is_name [d] s = .ok (.bl false) s) ∨ d = .str nwh
theorem oddn_ni {d : D} {t : String} (ht : ∀ s, tyOf s d = some t) (hk : kitB t "str" = some false) : OddN d := by
  left
  intro s
  have i1 : bIsO parT parA csT [d, .ty "str"] s = .ok (.bl false) s := iso_ty (t := t) (ht s) hk
  simp [f_is_name, mkF, g_is_name, i1]
theorem oddn_e : OddN (.str []) := by
  left
  intro s
  have i1 : bIsO parT parA csT [.str [], .ty "str"] s = .ok (.bl true) s := iso_ty (t := "str") rfl kit_ss
  simp [f_is_name, mkF, g_is_name, i1, lim_eq]
theorem oddn_A : OddN (.str [65]) := by
  left
  intro s
  have key : g_is_name [some (.str [65]), none] s = .rt (.bl false) s := by rfl
  show finO s.length (g_is_name [some (.str [65]), none] s) = _
  rw [key]
  simp
theorem nm_nwh : NmOk nwh := ⟨by decide, by decide, by decide⟩
theorem p_notrip {A R T B : Ps} {s : Sto} (h : Nt A R T B s) {d b o : D} (hd : OddN d) (hn : nwh ∉ B.map (·.1)) : f__law_refused [.int 0, .loc 0, d, b, o] s = .ok (.lst [.str wTrip]) s := by
  refine p_refused0 (k := 9) ?_ rfl word9
  have e0 : f_Net_need_trip [.loc 0, d] s = .exc 9 s := by
    rcases hd with hd | rfl
    · simp [f_Net_need_trip, mkF, g_Net_need_trip, hd s]
    · obtain ⟨l, _⟩ := lk_no hn
      simp [f_Net_need_trip, mkF, g_Net_need_trip, p_isname nm_nwh, h.o, h.b, l]
  have e1 : f_Net_calls [.loc 0, d] s = .exc 9 s := by
    simp [f_Net_calls, mkF, g_Net_calls, dMeth_eq, List.lookup, h.o, e0]
  simp [f_zones_of, mkF, g_zones_of, dMeth_eq, List.lookup, h.o, e1]
theorem p_noticket {A R T B : Ps} {s : Sto} (h : Nt A R T B s) {d b o : D} (hd : OddN d) (hn : nwh ∉ T.map (·.1)) : f__law_refused [.int 1, .loc 0, d, b, o] s = .ok (.lst [.str wTick]) s := by
  refine p_refused1 (k := 8) ?_ rfl word8
  have e1 : f_Net_ticket [.loc 0, d] s = .exc 8 s := by
    rcases hd with hd | rfl
    · simp [f_Net_ticket, mkF, g_Net_ticket, hd s]
    · obtain ⟨l, _⟩ := lk_no hn
      simp [f_Net_ticket, mkF, g_Net_ticket, p_isname nm_nwh, h.o, h.t, l]
  simp [f_fits, mkF, g_fits, dMeth_eq, List.lookup, h.o, e1]
/-! ### tickets -/
def Tk.q (t : Tk) : D := .tup [.int t.pr, .int t.la, .lst ((zonesOf t.b).map D.int)]
theorem p_ticket {A R B : Ps} {ts : List Tk} {t : Tk} {s : Sto} (h : Nt A R (tkT ts) B s) (nd : (ts.map Tk.nm).Nodup) (ht : t ∈ ts) (ho : t.ok) : f_Net_ticket [.loc 0, .str t.nm] s = .ok t.q s := by
  have l := lk_yes (P := tkT ts) (by rw [tkT_keys]; exact nd) (List.mem_map_of_mem (f := Tk.n2) ht)
  simp only [Tk.n2] at l
  have n1 := p_isname (s := s) ho.1.1
  have key : g_Net_ticket [some (.loc 0), some (.str t.nm), none, none, none] s = .rt t.q s := by
    unfold g_Net_ticket
    refine seq_step (δ' := [some (.loc 0), some (.str t.nm), none, none, none]) (s' := s) (by simp [n1, h.o, h.t, l]) ?_
    refine seq_step (δ' := [some (.loc 0), some (.str t.nm), some (.int t.pr), some (.int t.la), some (.tup ((zonesOf t.b).map D.int))]) (s' := s) (by simp [h.o, h.t, oDix, l]) ?_
    simp [lim_eq, Tk.q]
  show finO s.length (g_Net_ticket [some (.loc 0), some (.str t.nm), none, none, none] s) = _
  rw [key]
  simp
theorem fits_eq' {b c : Int} (hb : 0 ≤ b ∧ b < 64) (hc : okB c) : (Builtin.bitAnd b c == b) = fitsZ b c := by
  obtain ⟨f, hf⟩ : ∃ f : Fin 64, (f.val : Int) = b := ⟨⟨b.toNat, by omega⟩, by simp; omega⟩
  obtain ⟨g, rfl⟩ := fin_of hc
  rw [← hf]
  exact fit_all f g
theorem p_fits {A R B : Ps} {ts : List Tk} {t : Tk} {b : Int} {s : Sto} (h : Nt A R (tkT ts) B s) (nd : (ts.map Tk.nm).Nodup) (ht : t ∈ ts) (ho : t.ok) (hb : 0 ≤ b ∧ b < 64) : f_fits [.loc 0, .str t.nm, .int b] s = .ok (.bl (fitsZ b t.b)) s := by
  have e1 := p_ticket h nd ht ho
  have e2 := p_bits (s := s) ho.2.2.2
  have e3 := fits_eq' hb ho.2.2.2
  simp only [Tk.q] at e1
  simp [f_fits, mkF, g_fits, dMeth_eq, List.lookup, h.o, e1, e2, e3]
end Rb
namespace Rb
open PySem PySem.Spec L2 Mp
theorem insI_len {x : Int} : ∀ {ys : List Int}, (insI x ys).length ≤ ys.length + 1
  | [] => by simp [insI]
  | y :: ys => by
    unfold insI
    split
    · simp
    · split
      · simp
      · have := insI_len (x := x) (ys := ys)
        simp only [List.length_cons]
        omega
theorem sortI_len : ∀ {xs : List Int}, (sortI xs).length ≤ xs.length
  | [] => by simp [sortI]
  | x :: xs => by
    unfold sortI
    have h1 := insI_len (x := x) (ys := sortI xs)
    have h2 := sortI_len (xs := xs)
    rw [List.length_cons]
    omega
theorem segZ_len {P : Zs} {cs : List Cl3} {lo hi : Int} : (segZ P cs lo hi).length ≤ cs.length := by
  unfold segZ
  rw [List.length_map]
  exact cut_len
section
variable {P : Zs} {R T B : Ps} {s : Sto} {cs : List Cl3} {z : List Nat} {o0 o3 o9 o10 o11 o12 o13 o14 : Option D}
theorem met_ok (hc : ∀ c ∈ cs, c.1 ∈ P.map (·.1)) (hl : cs.length ≤ 6) {b o : Int} :
    (dSortedSet (dLc (itAny (dSl (dVar 6) (pSome (dVar 7)) (pSome (dOp oAdd (dVar 8) (dC (.int 1)))))) (tgN 14) cYes (dOp oIx (dVar 5) (dMt "list" mIndex (dVar 4) (aCons (dOp oIx (dVar 14) (dC (.int 0))) aNil))) [14])) [o0, some (.loc 0), some (.str z), o3, some (.lst ((P.map (·.1)).map D.str)), some (.lst ((P.map (·.2)).map D.int)), some (.lst (cs.map cD)), some (.int b), some (.int o), o9, o10, o11, o12, o13, o14] s =
      .ok (.lst ((sortI (segZ P cs b o)).map D.int)) s := by
  have c := lcL_map (s := s) (δ := [o0, some (.loc 0), some (.str z), o3, some (.lst ((P.map (·.1)).map D.str)), some (.lst ((P.map (·.2)).map D.int)), some (.lst (cs.map cD)), some (.int b), some (.int o), o9, o10, o11, o12, o13, none]) (t := tgN 14) (e := dOp oIx (dVar 5) (dMt "list" mIndex (dVar 4) (aCons (dOp oIx (dVar 14) (dC (.int 0))) aNil))) (fun d => match d with | .tup [.str n, _, _] => .int (zn P n) | _ => .non) ((cutL cs (some b) (some (o + 1))).map cD) [] (by
      have := cut_len (xs := cs) (lo := some b) (hi := some (o + 1))
      rw [lim_eq]; simp; omega) (by
    intro d hd
    obtain ⟨x, hx, rfl⟩ := List.mem_map.mp hd
    refine ⟨_, rfl, ?_⟩
    obtain ⟨i, h1, h2⟩ := p_index (s := s) (hc x (cut_sub hx))
    have h3 : ((P.map (·.2)).map D.int)[i]? = some (.int (zn P x.1)) := by rw [List.getElem?_map, h2]; rfl
    have q0 : oIx (cD x) (.int 0) s = .ok (.str x.1) s := by simp [cD]
    simp only [dOp_eq, dVar_eq, dMt_eq, aCons_eq, aNil_eq, dC_eq, List.set, List.getElem?_cons_succ, List.getElem?_cons_zero, bind_ok, recvTy_lst, if_true, q0, h1, oIx_lst, atI_natc, h3]
    rfl)
  have e2 : ((cutL cs (some b) (some (o + 1))).map cD).map (fun d => match d with | .tup [.str n, _, _] => D.int (zn P n) | _ => .non) = (segZ P cs b o).map D.int := by
    unfold segZ
    rw [List.map_map, List.map_map]
    rfl
  rw [e2, List.nil_append] at c
  simp only [dSortedSet_eq, dLc_eq, itAny_eq, dSl_eq, pSome_eq, dOp_eq, dC_eq, oAdd_int, oSl, lqOf_lst, dVar_eq, List.getElem?_cons_succ, List.getElem?_cons_zero, bind_ok, wipeE_cons, wipeE_nil, List.set, cut_map] at c ⊢
  rw [c]
  simp only [bind_ok, lqOf_lst, intsOf_map]
  have := segZ_len (P := P) (cs := cs) (lo := b) (hi := o)
  have hk : (segZ P cs b o).length < 63 := by omega
  simp [hk]
theorem rr_b1 (hP : ZsOk P) (h : Nt (stA P) R T B s) (ndB : (B.map (·.1)).Nodup) (hz : NmOk z) (hm : (z, trD cs) ∈ B) (hc : ∀ c ∈ cs, c.1 ∈ P.map (·.1)) (hl : cs.length ≤ 6) {b o : Int} (hb : 0 ≤ b) (hbo : b < o) (ho : o < cs.length) :
    ∃ p9 p10, g__law_rides_right_b1 [o0, some (.loc 0), some (.str z), o3, some (.lst ((P.map (·.1)).map D.str)), some (.lst ((P.map (·.2)).map D.int)), some (.lst (cs.map cD)), some (.int b), some (.int o), o9, o10, o11, o12, o13, o14] s =
      .nx [o0, some (.loc 0), some (.str z), o3, some (.lst ((P.map (·.1)).map D.str)), some (.lst ((P.map (·.2)).map D.int)), some (.lst (cs.map cD)), some (.int b), some (.int o), p9, p10, o11, o12, o13, o14] s := by
  have e1 := met_ok (s := s) (z := z) (o0 := o0) (o3 := o3) (o9 := o9) (o10 := o10) (o11 := o11) (o12 := o12) (o13 := o13) (o14 := o14) hc hl (b := b) (o := o)
  have e2 := p_zof hP h ndB hz hm hc hl hb hbo ho
  have sz := segZ_ok hP hc (lo := b) (hi := o)
  have sl := segZ_len (P := P) (cs := cs) (lo := b) (hi := o)
  have sl2 := sortI_len (xs := segZ P cs b o)
  have e3 := p_lbits (s := s) (L := sortI (segZ P cs b o)) (fun y hy => sz y (mem_sortI.mp hy)) (by omega)
  rw [sum_or sz] at e3
  have e4 := p_whole (i := (segZ P cs b o).foldl orZ 0) (s := s)
  generalize (segZ P cs b o).foldl orZ 0 = v at e2 e3 e4
  refine ⟨some (.lst ((sortI (segZ P cs b o)).map D.int)), some (.int v), ?_⟩
  unfold g__law_rides_right_b1
  refine seq_step (δ' := [o0, some (.loc 0), some (.str z), o3, some (.lst ((P.map (·.1)).map D.str)), some (.lst ((P.map (·.2)).map D.int)), some (.lst (cs.map cD)), some (.int b), some (.int o), some (.lst ((sortI (segZ P cs b o)).map D.int)), o10, o11, o12, o13, o14]) (s' := s) (by
    rw [sSet_eq, e1]
    rfl) ?_
  generalize sortI (segZ P cs b o) = Y at e3
  refine seq_step (δ' := [o0, some (.loc 0), some (.str z), o3, some (.lst ((P.map (·.1)).map D.str)), some (.lst ((P.map (·.2)).map D.int)), some (.lst (cs.map cD)), some (.int b), some (.int o), some (.lst (Y.map D.int)), some (.int v), o11, o12, o13, o14]) (s' := s) (by simp [e2]) ?_
  simp [e3, e4]
theorem rr_b2 (hP : ZsOk P) (h : Nt (stA P) R T B s) (ndB : (B.map (·.1)).Nodup) (hz : NmOk z) (hm : (z, trD cs) ∈ B) (hc : ∀ c ∈ cs, c.1 ∈ P.map (·.1)) (hl : cs.length ≤ 6) {b : Int} {o8 : Option D} (hb : 0 ≤ b) (hb2 : b < (cs.length : Int) - 1) :
    ∃ p8 p9 p10, g__law_rides_right_b2 [o0, some (.loc 0), some (.str z), o3, some (.lst ((P.map (·.1)).map D.str)), some (.lst ((P.map (·.2)).map D.int)), some (.lst (cs.map cD)), some (.int b), o8, o9, o10, o11, o12, o13, o14] s =
      .nx [o0, some (.loc 0), some (.str z), o3, some (.lst ((P.map (·.1)).map D.str)), some (.lst ((P.map (·.2)).map D.int)), some (.lst (cs.map cD)), some (.int b), p8, p9, p10, o11, o12, o13, o14] s := by
  have m1 : small62 (b + 1) = true := by unfold small62; simp; omega
  have m2 : small62 (cs.length : Int) = true := by unfold small62; simp; omega
  obtain ⟨δ', s', e, rfl, p8, p9, p10, rfl⟩ := forL_ok (fun _ δ s' => s' = s ∧ ∃ p8 p9 p10, δ = [o0, some (.loc 0), some (.str z), o3, some (.lst ((P.map (·.1)).map D.str)), some (.lst ((P.map (·.2)).map D.int)), some (.lst (cs.map cD)), some (.int b), p8, p9, p10, o11, o12, o13, o14]) (t := tgN 8) (b := g__law_rides_right_b1) (intsD (b + 1) ((cs.length : Int) - (b + 1)).toNat) 0 (fun i d δ s' hd hi => by
      obtain ⟨rfl, p8, p9, p10, rfl⟩ := hi
      obtain ⟨j, hj, rfl⟩ := mem_ints (List.mem_of_getElem? hd)
      obtain ⟨q9, q10, e⟩ := rr_b1 (o0 := o0) (o3 := o3) (o9 := p9) (o10 := p10) (o11 := o11) (o12 := o12) (o13 := o13) (o14 := o14) hP h ndB hz hm hc hl hb (o := b + 1 + (j : Int)) (by omega) (by omega)
      exact ⟨_, _, s', rfl, .inl e, rfl, some (.int (b + 1 + (j : Int))), q9, q10, rfl⟩) [o0, some (.loc 0), some (.str z), o3, some (.lst ((P.map (·.1)).map D.str)), some (.lst ((P.map (·.2)).map D.int)), some (.lst (cs.map cD)), some (.int b), o8, o9, o10, o11, o12, o13, o14] s ⟨rfl, o8, o9, o10, rfl⟩
  refine ⟨p8, p9, p10, ?_⟩
  unfold g__law_rides_right_b2
  simp only [sFor_eq, itR2_eq, aCons_eq, aNil_eq, dOp_eq, dBi_eq, dC_eq, dVar_eq, List.getElem?_cons_succ, List.getElem?_cons_zero, bind_ok, oAdd_int, bLen_lst, List.length_map, m1, m2, Bool.and_self, if_true, out_ok]
  exact e
def pairs (b : Int) (od : D) : List D := [.tup [od, .int b], .tup [.int b, .int (b + 1)], .tup [.int b, od], .tup [.int 0, od], .tup [.int (b - 1), .int (b - 1)]]
theorem ne_num {s : Sto} : oEqG true (.lst [.str wNum]) (.lst [.str wNum]) s = .ok (.bl false) s := by
  rw [oEq_ll (by decide) (by decide)]
  rfl
theorem among_no {a lo hi : Int} {s : Sto} (h : ¬ (lo ≤ a ∧ a ≤ hi)) : f_is_among [.int a, .int lo, .int hi] s = .ok (.bl false) s := by
  rw [p_among]
  congr 2
  simp
  omega
theorem among_yes {a lo hi : Int} {s : Sto} (h : lo ≤ a ∧ a ≤ hi) : f_is_among [.int a, .int lo, .int hi] s = .ok (.bl true) s := by
  rw [p_among]
  congr 2
  simp
  omega
theorem rr_b3 (h : Nt (stA P) R T B s) (ndB : (B.map (·.1)).Nodup) (hz : NmOk z) (hm : (z, trD cs) ∈ B) (hl : 2 ≤ cs.length ∧ cs.length ≤ 6) {od : D} (hod : Odd od) {o4 o5 o6 o7 o8 : Option D} :
    ∃ p7 p8, forL (tgT [tgN 7, tgN 8]) g__law_rides_right_b3 (pairs ((cs.length : Int) - 1) od) [o0, some (.loc 0), some (.str z), o3, o4, o5, o6, o7, o8, o9, o10, o11, o12, o13, o14] s = .nx [o0, some (.loc 0), some (.str z), o3, o4, o5, o6, p7, p8, o9, o10, o11, o12, o13, o14] s := by
  have hd : ∀ d ∈ pairs ((cs.length : Int) - 1) od, ∃ b o, d = .tup [b, o] ∧ f__law_refused [.int 0, .loc 0, .str z, b, o] s = .ok (.lst [.str wNum]) s := by
    intro d hd
    simp only [pairs, List.mem_cons, List.not_mem_nil, or_false] at hd
    rcases hd with rfl | rfl | rfl | rfl | rfl
    · exact ⟨_, _, rfl, p_zbad h ndB hz hm (.inl (hod _ _ _ (by omega) (by omega)))⟩
    · exact ⟨_, _, rfl, p_zbad h ndB hz hm (.inl (among_no (by omega)))⟩
    · exact ⟨_, _, rfl, p_zbad h ndB hz hm (.inl (among_no (by omega)))⟩
    · exact ⟨_, _, rfl, p_zbad h ndB hz hm (.inr ⟨0, rfl, among_yes (by omega), hod _ _ _ (by omega) (by omega)⟩)⟩
    · exact ⟨_, _, rfl, p_zbad h ndB hz hm (.inr ⟨_, rfl, among_yes (by omega), among_no (by omega)⟩)⟩
  obtain ⟨δ', s', e, rfl, p7, p8, rfl⟩ := forL_ok (fun _ δ s' => s' = s ∧ ∃ p7 p8, δ = [o0, some (.loc 0), some (.str z), o3, o4, o5, o6, p7, p8, o9, o10, o11, o12, o13, o14]) (t := tgT [tgN 7, tgN 8]) (b := g__law_rides_right_b3) (pairs ((cs.length : Int) - 1) od) 0 (fun i d δ s' hi hI => by
      obtain ⟨rfl, p7, p8, rfl⟩ := hI
      obtain ⟨b, o, rfl, hr⟩ := hd d (List.mem_of_getElem? hi)
      refine ⟨[o0, some (.loc 0), some (.str z), o3, o4, o5, o6, some b, some o, o9, o10, o11, o12, o13, o14], _, s', rfl, .inl ?_, rfl, some b, some o, rfl⟩
      simp [g__law_rides_right_b3, hr, ne_num, lim_eq]) [o0, some (.loc 0), some (.str z), o3, o4, o5, o6, o7, o8, o9, o10, o11, o12, o13, o14] s ⟨rfl, o7, o8, rfl⟩
  exact ⟨p7, p8, e⟩
theorem odd_all : ∀ d ∈ [D.int (-1), .bl true, .bl false, .non, .str [48], .tup [.int 1], .lst [.int 0], .tup [], .dct [] [], .int 100000000000000000000], Odd d := by
  intro d hd
  simp only [List.mem_cons, List.not_mem_nil, or_false] at hd
  rcases hd with rfl | rfl | rfl | rfl | rfl | rfl | rfl | rfl | rfl | rfl
  · exact odd_int (by decide)
  · exact odd_bl
  · exact odd_bl
  · exact odd_ni (fun _ => rfl) kit_ni
  · exact odd_ni (fun _ => rfl) kit_si
  · exact odd_ni (fun _ => rfl) kit_ti
  · exact odd_ni (fun _ => rfl) kit_li
  · exact odd_ni (fun _ => rfl) kit_ti
  · exact odd_ni (fun _ => rfl) kit_di
  · exact odd_int (by decide)
theorem p_rides {ns : List Int} {C : Nat → List Cl3} {tz : List (List Nat)} {k : Nat} (hP : ZsOk P) (hC : CsOk ns (P.map (·.1)) C) (h : Nt (stA P) R T (trB C 0 tz) s) (hs : Sb s) (ndz : tz.Nodup) (hz : NmOk z) (hk : tz[k]? = some z) (hk2 : k < 10) :
    f__law_rides_right [.scr ns, .loc 0, .str z, .int (k : Int), .lst ((P.map (·.1)).map D.str), .lst ((P.map (·.2)).map D.int)] s = .ok (.bl true) s := by
  obtain ⟨c1, c2, ⟨m, m0, c3⟩, c4⟩ := hC k (by omega)
  have e1 := c4 s hs
  have ndB : ((trB C 0 tz).map (·.1)).Nodup := by rw [trB_keys]; exact ndz
  have hm : (z, trD (C k)) ∈ trB C 0 tz := by
    have := trB_at (C := C) (i := 0) hk
    rw [Nat.zero_add] at this
    exact this
  generalize C k = cs at c1 c2 c3 e1 hm
  have hc := c3.mem
  obtain ⟨x, x0, x1, e2⟩ := p_draw (ns := ns) (k := 80 + (k : Int)) (s := s) (by omega)
  obtain ⟨od, h1, hod⟩ := atI_ex (xs := [D.int (-1), .bl true, .bl false, .non, .str [48], .tup [.int 1], .lst [.int 0], .tup [], .dct [] [], .int 100000000000000000000]) (i := x % 10) (Q := Odd) (by omega) (by simp; omega) odd_all
  have m1 : small62 ((cs.length : Int) - 1) = true := by unfold small62; simp; omega
  obtain ⟨δ', s', e3, rfl, q7, q8, q9, q10, rfl⟩ := forL_ok (fun _ δ s' => s' = s ∧ ∃ p7 p8 p9 p10, δ = [some (.scr ns), some (.loc 0), some (.str z), some (.int (k : Int)), some (.lst ((P.map (·.1)).map D.str)), some (.lst ((P.map (·.2)).map D.int)), some (.lst (cs.map cD)), p7, p8, p9, p10, none, none, none, none]) (t := tgN 7) (b := g__law_rides_right_b2) (intsD 0 ((cs.length : Int) - 1).toNat) 0 (fun i d δ s' hd hi => by
      obtain ⟨rfl, p7, p8, p9, p10, rfl⟩ := hi
      obtain ⟨j, hj, rfl⟩ := mem_ints (List.mem_of_getElem? hd)
      obtain ⟨q8, q9, q10, e⟩ := rr_b2 (o0 := some (.scr ns)) (o3 := some (.int (k : Int))) (o9 := p9) (o10 := p10) (o11 := none) (o12 := none) (o13 := none) (o14 := none) (o8 := p8) hP h ndB hz hm hc c2 (b := 0 + (j : Int)) (by omega) (by omega)
      exact ⟨_, _, s', rfl, .inl e, rfl, some (.int (0 + (j : Int))), q8, q9, q10, rfl⟩) [some (.scr ns), some (.loc 0), some (.str z), some (.int (k : Int)), some (.lst ((P.map (·.1)).map D.str)), some (.lst ((P.map (·.2)).map D.int)), some (.lst (cs.map cD)), none, none, none, none, none, none, none, none] s ⟨rfl, none, none, none, none, rfl⟩
  obtain ⟨r7, r8, e4⟩ := rr_b3 (o0 := some (.scr ns)) (o3 := some (.int (k : Int))) (o4 := some (.lst ((P.map (·.1)).map D.str))) (o5 := some (.lst ((P.map (·.2)).map D.int))) (o6 := some (.lst (cs.map cD))) (o7 := q7) (o8 := q8) (o9 := q9) (o10 := q10) (o11 := some (.int x)) (o12 := some (.int ((cs.length : Int) - 1))) (o13 := some od) (o14 := none) h ndB hz hm ⟨c1, c2⟩ hod
  have cm : cMul 8 (k : Int) = true := cMul_l (by omega)
  have key : g__law_rides_right [some (.scr ns), some (.loc 0), some (.str z), some (.int (k : Int)), some (.lst ((P.map (·.1)).map D.str)), some (.lst ((P.map (·.2)).map D.int)), none, none, none, none, none, none, none, none, none] s' = .rt (.bl true) s' := by
    unfold g__law_rides_right
    refine seq_step (δ' := [some (.scr ns), some (.loc 0), some (.str z), some (.int (k : Int)), some (.lst ((P.map (·.1)).map D.str)), some (.lst ((P.map (·.2)).map D.int)), some (.lst (cs.map cD)), none, none, none, none, none, none, none, none]) (s' := s') (by
      have mi : oMulA (.int 8) (.int (k : Int)) s' = .ok (.int (8 * (k : Int))) s' := by simp [cm]
      simp only [sSet_eq, dCall_eq, aCons_eq, aNil_eq, dVar_eq, dC_eq, dOp_eq, List.getElem?_cons_succ, List.getElem?_cons_zero, bind_ok, mi, oAdd_int, e1, out_ok]
      rfl) ?_
    refine seq_step (δ' := [some (.scr ns), some (.loc 0), some (.str z), some (.int (k : Int)), some (.lst ((P.map (·.1)).map D.str)), some (.lst ((P.map (·.2)).map D.int)), some (.lst (cs.map cD)), q7, q8, q9, q10, none, none, none, none]) (s' := s') (by
      simp only [sFor_eq, itR1_eq, aCons_eq, aNil_eq, dOp_eq, dBi_eq, dC_eq, dVar_eq, List.getElem?_cons_succ, List.getElem?_cons_zero, bind_ok, bLen_lst, List.length_map]
      have ms : oSub (.int (cs.length : Int)) (.int 1) s' = .ok (.int ((cs.length : Int) - 1)) s' := by simp
      simp only [ms, bind_ok, m1, if_true, out_ok]
      exact e3) ?_
    refine seq_step (δ' := [some (.scr ns), some (.loc 0), some (.str z), some (.int (k : Int)), some (.lst ((P.map (·.1)).map D.str)), some (.lst ((P.map (·.2)).map D.int)), some (.lst (cs.map cD)), q7, q8, q9, q10, some (.int x), none, none, none]) (s' := s') (by simp [e2]) ?_
    refine seq_step (δ' := [some (.scr ns), some (.loc 0), some (.str z), some (.int (k : Int)), some (.lst ((P.map (·.1)).map D.str)), some (.lst ((P.map (·.2)).map D.int)), some (.lst (cs.map cD)), q7, q8, q9, q10, some (.int x), some (.int ((cs.length : Int) - 1)), none, none]) (s' := s') (by simp) ?_
    refine seq_step (δ' := [some (.scr ns), some (.loc 0), some (.str z), some (.int (k : Int)), some (.lst ((P.map (·.1)).map D.str)), some (.lst ((P.map (·.2)).map D.int)), some (.lst (cs.map cD)), q7, q8, q9, q10, some (.int x), some (.int ((cs.length : Int) - 1)), some od, none]) (s' := s') (by
      have cp : cPow 10 20 = true := by decide
      simp [lim_eq, cp, h1]) ?_
    refine seq_step (δ' := [some (.scr ns), some (.loc 0), some (.str z), some (.int (k : Int)), some (.lst ((P.map (·.1)).map D.str)), some (.lst ((P.map (·.2)).map D.int)), some (.lst (cs.map cD)), r7, r8, q9, q10, some (.int x), some (.int ((cs.length : Int) - 1)), some od, none]) (s' := s') (by
      have it : itAny (dTup (aCons (dTup (aCons (dVar 13) (aCons (dVar 12) aNil))) (aCons (dTup (aCons (dVar 12) (aCons (dOp oAdd (dVar 12) (dC (.int 1))) aNil))) (aCons (dTup (aCons (dVar 12) (aCons (dVar 13) aNil))) (aCons (dTup (aCons (dC (.int 0)) (aCons (dVar 13) aNil))) (aCons (dTup (aCons (dOp oSub (dVar 12) (dC (.int 1))) (aCons (dOp oSub (dVar 12) (dC (.int 1))) aNil))) aNil)))))) [some (.scr ns), some (.loc 0), some (.str z), some (.int (k : Int)), some (.lst ((P.map (·.1)).map D.str)), some (.lst ((P.map (·.2)).map D.int)), some (.lst (cs.map cD)), q7, q8, q9, q10, some (.int x), some (.int ((cs.length : Int) - 1)), some od, none] s' = .ok (pairs ((cs.length : Int) - 1) od) s' := by
        simp [lim_eq, pairs]
      rw [sFor_eq, it]
      simp only [out_ok]
      exact e4) ?_
    simp
  show finO s'.length (g__law_rides_right [some (.scr ns), some (.loc 0), some (.str z), some (.int (k : Int)), some (.lst ((P.map (·.1)).map D.str)), some (.lst ((P.map (·.2)).map D.int)), none, none, none, none, none, none, none, none, none] s') = _
  rw [key]
  simp
end
end Rb
namespace Rb
open PySem PySem.Spec L2 Mp
theorem lcL_ex {t : DTg} {e : DE} {δ : Mp.Env} {s : Sto} (Q : D → Prop) : ∀ (ds acc : List D), acc.length + ds.length ≤ lim → (∀ d ∈ ds, ∃ δ1 y, t d δ = some δ1 ∧ e δ1 s = .ok y s ∧ Q y) → ∃ ys : List D, ys.length = ds.length ∧ (∀ y ∈ ys, Q y) ∧ lcL t cYes e δ ds acc s = .ok (.lst (acc ++ ys)) s
  | [], acc, _, _ => ⟨[], rfl, (fun y hy => nomatch hy), by simp⟩
  | d :: ds, acc, hl, h => by
    obtain ⟨δ1, y, h1, h2, h3⟩ := h d List.mem_cons_self
    rw [List.length_cons] at hl
    obtain ⟨ys, g1, g2, g3⟩ := lcL_ex Q ds (acc ++ [y]) (by simp; omega) fun x hx => h x (List.mem_cons_of_mem _ hx)
    refine ⟨y :: ys, by rw [List.length_cons, List.length_cons, g1], fun x hx => ?_, ?_⟩
    · rcases List.mem_cons.mp hx with rfl | hx
      · exact h3
      · exact g2 x hx
    · rw [lcL_cons, h1]
      dsimp only [cYes_eq]
      rw [h2]
      dsimp only
      rw [if_pos (by omega), g3]
      simp
theorem ints_ex {Q : Int → Prop} : ∀ {ys : List D}, (∀ y ∈ ys, ∃ v, y = D.int v ∧ Q v) → ∃ zs : List Int, ys = zs.map D.int ∧ ∀ z ∈ zs, Q z
  | [], _ => ⟨[], rfl, fun z hz => nomatch hz⟩
  | y :: ys, h => by
    obtain ⟨v, rfl, hv⟩ := h y List.mem_cons_self
    obtain ⟨zs, rfl, hz⟩ := ints_ex fun x hx => h x (List.mem_cons_of_mem _ hx)
    refine ⟨v :: zs, rfl, fun z hz' => ?_⟩
    rcases List.mem_cons.mp hz' with rfl | hz'
    · exact hv
    · exact hz z hz'
theorem z6_of {a : Int} (h : 1 ≤ a ∧ a ≤ 6) : a ∈ zs6 := by
  have : a = 1 ∨ a = 2 ∨ a = 3 ∨ a = 4 ∨ a = 5 ∨ a = 6 := by omega
  rcases this with rfl | rfl | rfl | rfl | rfl | rfl <;> decide
theorem zonesOf_z6 {b z : Int} (h : z ∈ zonesOf b) : z ∈ zs6 := (List.mem_filter.mp h).1
theorem zonesOf_len {b : Int} : (zonesOf b).length ≤ 6 := Nat.le_trans (List.length_filter_le _ _) (by decide)
theorem oddn_all : ∀ d ∈ [D.non, .bl true, .int 0, .str [], .str [65], .str nwh, .lst [.str [97]], .tup [], .dct [] []], OddN d := by
  intro d hd
  simp only [List.mem_cons, List.not_mem_nil, or_false] at hd
  rcases hd with rfl | rfl | rfl | rfl | rfl | rfl | rfl | rfl | rfl
  · exact oddn_ni (fun _ => rfl) kit_ns
  · exact oddn_ni (fun _ => rfl) kit_bs
  · exact oddn_ni (fun _ => rfl) kit_is
  · exact oddn_e
  · exact oddn_A
  · exact .inr rfl
  · exact oddn_ni (fun _ => rfl) kit_ls
  · exact oddn_ni (fun _ => rfl) kit_ts
  · exact oddn_ni (fun _ => rfl) kit_ds
/-- zones that rise -/
def Zr (L : List Int) : Prop := (∀ z ∈ L, z ∈ zs6) ∧ L.Pairwise (· < ·) ∧ L.length ≤ 6
theorem zr_zones {b : Int} : Zr (zonesOf b) := ⟨fun _ h => zonesOf_z6 h, zonesOf_lt, zonesOf_len⟩
theorem zr_cut {L : List Int} {lo hi : Option Int} (h : Zr L) : Zr (cutL L lo hi) := by
  refine ⟨fun z hz => h.1 z (cut_sub hz), ?_, Nat.le_trans cut_len h.2.2⟩
  unfold cutL
  exact (h.2.1.sublist (List.drop_sublist _ _)).sublist (List.take_sublist _ _)
theorem zr_one {a : Int} (h : 1 ≤ a ∧ a ≤ 6) : Zr [a] := ⟨fun z hz => by rw [List.mem_singleton.mp hz]; exact z6_of h, List.pairwise_singleton _ _, by simp⟩
section
variable {A R B : Ps} {ts : List Tk} {s : Sto} {o0 o1 o2 o3 o5 o6 o7 o8 o9 o10 o12 o16 o17 : Option D}
theorem eq_nil {xs : List Int} {s : Sto} : oEqG false (.lst (xs.map D.int)) (.lst []) s = .ok (.bl xs.isEmpty) s := by
  rw [oEq_ll (datDs_ints xs) (by simp)]
  cases xs <;> rfl
theorem lw_b2 (h : Nt A R (tkT ts) B s) (nd : (ts.map Tk.nm).Nodup) (ho : ∀ t ∈ ts, t.ok) {L : List Int} (hL : Zr L) {t : Tk} (ht : t ∈ ts) {o11 o15 : Option D} :
    ∃ p11 p15, g_law_b2 [o0, o1, o2, o3, some (.loc 0), o5, o6, o7, o8, o9, o10, o11, o12, some (.lst (L.map D.int)), some t.d, o15, o16, none] s = .nx [o0, o1, o2, o3, some (.loc 0), o5, o6, o7, o8, o9, o10, p11, o12, some (.lst (L.map D.int)), some t.d, p15, o16, none] s := by
  obtain ⟨l1, l2, l3⟩ := hL
  have e1 := p_lbitsS (s := s) l1 l2 (by omega)
  have e2 := p_fits h nd ht (ho t ht) (or_rng l1)
  have e3 : fitsZ (L.foldl orZ 0) t.b = (L.filter fun z => !decide (z ∈ zonesOf t.b)).isEmpty := by
    unfold fitsZ
    rw [zones_or l1, sort_id l2]
  rw [e3] at e2
  generalize L.foldl orZ 0 = v at e1 e2
  have c := lcL_fil (s := s) (δ := [o0, o1, o2, o3, some (.loc 0), o5, o6, o7, o8, o9, o10, some (.bl (L.filter fun z => !decide (z ∈ zonesOf t.b)).isEmpty), o12, some (.lst (L.map D.int)), some t.d, o15, o16, none]) (t := tgN 17) (c := tst (dOp (oInA true) (dVar 17) (dOp oIx (dVar 14) (dC (.int 3))))) (e := dVar 17) id (fun d => match d with | .int z => !decide (z ∈ zonesOf t.b) | _ => false) (L.map D.int) [] (by rw [lim_eq]; simp; omega) (by
    intro d hd
    obtain ⟨z, hz, rfl⟩ := List.mem_map.mp hd
    refine ⟨_, rfl, ?_, fun _ => by simp⟩
    simp [Tk.d])
  have e : (L.map D.int).filter (fun d => match d with | .int z => !decide (z ∈ zonesOf t.b) | _ => false) = (L.filter fun z => !decide (z ∈ zonesOf t.b)).map D.int := by
    rw [List.filter_map]
    rfl
  rw [e, List.map_id, List.nil_append] at c
  have en := eq_nil (xs := L.filter fun z => !decide (z ∈ zonesOf t.b)) (s := s)
  generalize (L.filter fun z => !decide (z ∈ zonesOf t.b)) = Y at e2 c en
  refine ⟨some (.bl Y.isEmpty), some (.lst (Y.map D.int)), ?_⟩
  have q0 : oIx t.d (.int 0) s = .ok (.str t.nm) s := by simp [Tk.d]
  have i1 : bIsO parT parA csT [.bl Y.isEmpty, .ty "bool"] s = .ok (.bl true) s := iso_ty (t := "bool") rfl kit_bb
  unfold g_law_b2
  refine seq_step (δ' := [o0, o1, o2, o3, some (.loc 0), o5, o6, o7, o8, o9, o10, some (.bl Y.isEmpty), o12, some (.lst (L.map D.int)), some t.d, o15, o16, none]) (s' := s) (by
    simp only [sSet_eq, dCall_eq, aCons_eq, aNil_eq, dVar_eq, dC_eq, dOp_eq, List.getElem?_cons_succ, List.getElem?_cons_zero, bind_ok, q0, e1, e2, out_ok]
    rfl) ?_
  refine seq_step (δ' := [o0, o1, o2, o3, some (.loc 0), o5, o6, o7, o8, o9, o10, some (.bl Y.isEmpty), o12, some (.lst (L.map D.int)), some t.d, some (.lst (Y.map D.int)), o16, none]) (s' := s) (by
    simp only [sSet_eq, dLc_eq, itAny_eq, dVar_eq, List.getElem?_cons_succ, List.getElem?_cons_zero, bind_ok, wipeE_cons, wipeE_nil, List.set] at c ⊢
    rw [c]
    rfl) ?_
  simp [i1, lim_eq, en]
theorem lw_tk (h : Nt A R (tkT ts) B s) (nd : (ts.map Tk.nm).Nodup) (ho : ∀ t ∈ ts, t.ok) {L : List Int} (hL : Zr L) {o11 o14 o15 : Option D} :
    ∃ p11 p14 p15, forL (tgN 14) g_law_b2 (ts.map Tk.d) [o0, o1, o2, o3, some (.loc 0), o5, o6, o7, o8, o9, o10, o11, o12, some (.lst (L.map D.int)), o14, o15, o16, none] s = .nx [o0, o1, o2, o3, some (.loc 0), o5, o6, o7, o8, o9, o10, p11, o12, some (.lst (L.map D.int)), p14, p15, o16, none] s := by
  obtain ⟨δ', s', e, rfl, q11, q14, q15, rfl⟩ := forL_ok (fun _ δ s' => s' = s ∧ ∃ p11 p14 p15, δ = [o0, o1, o2, o3, some (.loc 0), o5, o6, o7, o8, o9, o10, p11, o12, some (.lst (L.map D.int)), p14, p15, o16, none]) (t := tgN 14) (b := g_law_b2) (ts.map Tk.d) 0 (fun i d δ s' hd hi => by
      obtain ⟨rfl, p11, p14, p15, rfl⟩ := hi
      obtain ⟨t, ht, rfl⟩ := List.mem_map.mp (List.mem_of_getElem? hd)
      obtain ⟨q11, q15, e⟩ := lw_b2 (o0 := o0) (o1 := o1) (o2 := o2) (o3 := o3) (o5 := o5) (o6 := o6) (o7 := o7) (o8 := o8) (o9 := o9) (o10 := o10) (o12 := o12) (o16 := o16) h nd ho hL ht (o11 := p11) (o15 := p15)
      exact ⟨_, _, s', rfl, .inl e, rfl, q11, some t.d, q15, rfl⟩) [o0, o1, o2, o3, some (.loc 0), o5, o6, o7, o8, o9, o10, o11, o12, some (.lst (L.map D.int)), o14, o15, o16, none] s ⟨rfl, o11, o14, o15, rfl⟩
  exact ⟨q11, q14, q15, e⟩
theorem lw_b3 {ns : List Int} (h : Nt A R (tkT ts) B s) (nd : (ts.map Tk.nm).Nodup) (ho : ∀ t ∈ ts, t.ok) {k : Nat} (hk : k < 4) {o11 o12 o13 o14 o15 : Option D} :
    ∃ p11 p12 p13 p14 p15, g_law_b3 [some (.scr ns), o1, o2, some (.lst (ts.map Tk.d)), some (.loc 0), o5, some (.int (k : Int)), o7, o8, o9, o10, o11, o12, o13, o14, o15, o16, none] s = .nx [some (.scr ns), o1, o2, some (.lst (ts.map Tk.d)), some (.loc 0), o5, some (.int (k : Int)), o7, o8, o9, o10, p11, p12, p13, p14, p15, o16, none] s := by
  obtain ⟨x, x0, x1, e1⟩ := p_draw (ns := ns) (k := 12 + (k : Int)) (s := s) (by omega)
  have zr0 : Zr (cutL (zonesOf (1 + x % 63)) (some (x / 64 % 4)) none) := zr_cut zr_zones
  have hw : ∃ L, Zr L ∧ (dOrT (dSl (dCall f__law_zones (aCons (dOp oAdd (dC (.int 1)) (dOp oMod (dVar 12) (dC (.int 63)))) aNil)) (pSome (dOp oMod (dOp oDiv (dVar 12) (dC (.int 64))) (dC (.int 4)))) pNone) (dLst (aCons (dOp oAdd (dC (.int 1)) (dOp oMod (dOp oDiv (dVar 12) (dC (.int 256))) (dC (.int 6)))) aNil))) [some (.scr ns), o1, o2, some (.lst (ts.map Tk.d)), some (.loc 0), o5, some (.int (k : Int)), o7, o8, o9, o10, o11, some (.int x), o13, o14, o15, o16, none] s = .ok (.lst (L.map D.int)) s := by
    have cm : cutL ((zonesOf (1 + x % 63)).map D.int) (some (x / 64 % 4)) none = (cutL (zonesOf (1 + x % 63)) (some (x / 64 % 4)) none).map D.int := cut_map
    have pz := p_zones (b := 1 + x % 63) (s := s)
    by_cases q : cutL (zonesOf (1 + x % 63)) (some (x / 64 % 4)) none = []
    · refine ⟨[1 + x / 256 % 6], zr_one (by omega), ?_⟩
      rw [q] at cm
      simp [pz, oSl, cm, lim_eq]
    · refine ⟨_, zr0, ?_⟩
      have q' : (cutL (zonesOf (1 + x % 63)) (some (x / 64 % 4)) none).isEmpty = false := by simpa using q
      simp [pz, oSl, cm, q']
  obtain ⟨L, hL, e2⟩ := hw
  obtain ⟨p11, p14, p15, e3⟩ := lw_tk (o0 := some (.scr ns)) (o1 := o1) (o2 := o2) (o3 := some (.lst (ts.map Tk.d))) (o5 := o5) (o6 := some (.int (k : Int))) (o7 := o7) (o8 := o8) (o9 := o9) (o10 := o10) (o12 := some (.int x)) (o16 := o16) h nd ho hL (o11 := o11) (o14 := o14) (o15 := o15)
  refine ⟨p11, some (.int x), some (.lst (L.map D.int)), p14, p15, ?_⟩
  unfold g_law_b3
  refine seq_step (δ' := [some (.scr ns), o1, o2, some (.lst (ts.map Tk.d)), some (.loc 0), o5, some (.int (k : Int)), o7, o8, o9, o10, o11, some (.int x), o13, o14, o15, o16, none]) (s' := s) (by simp [e1]) ?_
  refine seq_step (δ' := [some (.scr ns), o1, o2, some (.lst (ts.map Tk.d)), some (.loc 0), o5, some (.int (k : Int)), o7, o8, o9, o10, o11, some (.int x), some (.lst (L.map D.int)), o14, o15, o16, none]) (s' := s) (by
    rw [sSet_eq, e2]
    rfl) ?_
  simp only [sFor_eq, itAny_eq, dVar_eq, List.getElem?_cons_succ, List.getElem?_cons_zero, bind_ok, out_ok]
  exact e3
end
theorem en_mem {d : D} {zs : List (List Nat)} {i : Nat} (h : (enD 0 (zs.map D.str))[i]? = some d) : ∃ z, zs[i]? = some z ∧ d = .tup [.int (i : Int), .str z] := by
  have hl : i < zs.length := by
    have := (List.getElem?_eq_some_iff.mp h).1
    rw [enD_len, List.length_map] at this
    exact this
  obtain ⟨z, hz⟩ : ∃ z, zs[i]? = some z := ⟨_, List.getElem?_eq_getElem hl⟩
  have e := enD_at (xs := zs.map D.str) (i := 0) (j := i) (x := .str z) (by rw [List.getElem?_map, hz]; rfl)
  rw [h] at e
  refine ⟨z, hz, ?_⟩
  have := Option.some.inj e
  rw [this, Nat.zero_add]
theorem ne_trip {s : Sto} : oEqG true (.lst [.str wTrip]) (.lst [.str wTrip]) s = .ok (.bl false) s := by
  rw [oEq_ll (by decide) (by decide)]
  rfl
theorem eq_tick {s : Sto} : oEqG false (.lst [.str wTick]) (.lst [.str wTick]) s = .ok (.bl true) s := by
  rw [oEq_ll (by decide) (by decide)]
  rfl
theorem ne_ints {xs : List Int} {s : Sto} : oEqG true (.lst (xs.map D.int)) (.lst (xs.map D.int)) s = .ok (.bl false) s := by
  rw [oEq_ll (datDs_ints xs) (datDs_ints xs), eqDs_ints]
  simp
theorem zs_step {ns : List Int} {names : List (List Nat)} {zs : List Int} (nl : names.length ≤ 5) {e : DE} (e3 : lcL (tgN 6) cYes e [some (.scr ns), some (.lst (names.map D.str)), none, none, none, none, none, none, none, none, none, none, none, none, none, none, none, none] (intsD 0 names.length) [] [] = .ok (.lst (zs.map D.int)) []) :
    sSet 2 (dLc (itR1 (aCons (dBi bLen (aCons (dVar 1) aNil)) aNil)) (tgN 6) cYes e [6]) [some (.scr ns), some (.lst (names.map D.str)), none, none, none, none, none, none, none, none, none, none, none, none, none, none, none, none] [] = .nx [some (.scr ns), some (.lst (names.map D.str)), some (.lst (zs.map D.int)), none, none, none, none, none, none, none, none, none, none, none, none, none, none, none] [] := by
  have sm : small62 (names.length : Int) = true := by unfold small62; simp; omega
  have hit : itR1 (aCons (dBi bLen (aCons (dVar 1) aNil)) aNil) [some (.scr ns), some (.lst (names.map D.str)), none, none, none, none, none, none, none, none, none, none, none, none, none, none, none, none] [] = .ok (intsD 0 names.length) [] := by
    have ha : aCons (dBi bLen (aCons (dVar 1) aNil)) aNil [some (.scr ns), some (.lst (names.map D.str)), none, none, none, none, none, none, none, none, none, none, none, none, none, none, none, none] [] = .ok [.int (names.length : Int)] [] := by simp
    rw [itR1_eq, ha, bind_ok]
    dsimp only
    rw [if_pos sm, Int.toNat_natCast]
  have hw : wipeE [some (.scr ns), some (.lst (names.map D.str)), none, none, none, none, none, none, none, none, none, none, none, none, none, none, none, none] [6] = [some (.scr ns), some (.lst (names.map D.str)), none, none, none, none, none, none, none, none, none, none, none, none, none, none, none, none] := rfl
  rw [sSet_eq, dLc_eq, hit, bind_ok, hw, e3, out_ok]
  rfl
theorem pure_law (ns : List Int) (h : ns.length ≤ 63) : f_law [.scr ns] [] = .ok (.bl true) [] := by
  obtain ⟨x1, x10, x11, e1⟩ := p_draw (ns := ns) (k := 1) (s := []) (by omega)
  obtain ⟨many, hm⟩ := Int.eq_ofNat_of_zero_le (a := 2 + x1 % 4) (by omega)
  obtain ⟨names, n1, n2, n3, e2⟩ := p_names (ns := ns) (k := 0) (M := 2 + x1 % 4) (many := many) (s := []) (by omega) (by omega) hm
  have nl : 2 ≤ names.length ∧ names.length ≤ 5 := by omega
  obtain ⟨ys, y1, y2, e3⟩ := lcL_ex (t := tgN 6) (e := dOp oAdd (dC (.int 1)) (dOp oMod (dCall f__law_draw (aCons (dVar 0) (aCons (dOp oAdd (dC (.int 2)) (dVar 6)) aNil))) (dC (.int 6)))) (δ := [some (.scr ns), some (.lst (names.map D.str)), none, none, none, none, none, none, none, none, none, none, none, none, none, none, none, none]) (s := []) (fun d => ∃ v, d = D.int v ∧ v ∈ zs6) (intsD 0 names.length) [] (by rw [lim_eq]; simp [intsD]; omega) (by
    intro d hd
    obtain ⟨j, hj, rfl⟩ := mem_ints hd
    obtain ⟨x, x0, x1, e⟩ := p_draw (ns := ns) (k := 2 + (0 + (j : Int))) (s := []) (by omega)
    refine ⟨_, .int (1 + x % 6), rfl, ?_, _, rfl, z6_of (by omega)⟩
    simp only [dOp_eq, dC_eq, dCall_eq, aCons_eq, aNil_eq, dVar_eq, List.set, List.getElem?_cons_succ, List.getElem?_cons_zero, bind_ok, oAdd_int, e]
    simp)
  obtain ⟨zs, rfl, z1⟩ := ints_ex y2
  rw [List.nil_append] at e3
  have zl : zs.length = names.length := by
    rw [List.length_map] at y1
    rw [y1]
    simp [intsD]
  obtain ⟨P, hP0⟩ : ∃ P : Zs, P = names.zip zs := ⟨_, rfl⟩
  have p1 : P.map (·.1) = names := by rw [hP0]; exact List.map_fst_zip (by omega)
  have p2 : P.map (·.2) = zs := by rw [hP0]; exact List.map_snd_zip (by omega)
  have hP : ZsOk P := by
    refine ⟨fun p hp => ?_, by rw [p1]; exact n2, fun p hp => ?_⟩
    · have : p.1 ∈ names := by rw [← p1]; exact List.mem_map_of_mem (f := (·.1)) hp
      exact (n3 _ this).1
    · have : p.2 ∈ zs := by rw [← p2]; exact List.mem_map_of_mem (f := (·.2)) hp
      exact z1 _ this
  have pl : P.length ≤ 8 := by
    have := congrArg List.length p1
    rw [List.length_map] at this
    omega
  obtain ⟨C, hC⟩ := cs_ex (ns := ns) n2 nl
  obtain ⟨x2, x20, x21, e4⟩ := p_draw (ns := ns) (k := 10) (s := []) (by omega)
  obtain ⟨tm, htm⟩ := Int.eq_ofNat_of_zero_le (a := x2 % 4) (by omega)
  obtain ⟨ts, t1, t2, t3, e5⟩ := p_tickets (ns := ns) (k := 20) (M := x2 % 4) (many := tm) (by omega) (by omega) htm
  rw [← p1] at hC
  obtain ⟨tz, u1, u2, u3, e6⟩ := p_net hP pl hC t3 t2 (by omega)
  have hN : Nt (stA P) R1 (tkT ts) (trB C 0 tz) (NetS (stA P) R1 (tkT ts) (trB C 0 tz)) := nt0
  have hS : Sb (NetS (stA P) R1 (tkT ts) (trB C 0 tz)) := sb_net (by simp [below, belows])
  rw [p1] at e6
  rw [p2] at e6
  have rr : ∀ (k : Nat) (z : List Nat), tz[k]? = some z → f__law_rides_right [.scr ns, .loc 0, .str z, .int (k : Int), .lst (names.map D.str), .lst (zs.map D.int)] (NetS (stA P) R1 (tkT ts) (trB C 0 tz)) = .ok (.bl true) (NetS (stA P) R1 (tkT ts) (trB C 0 tz)) := fun k z hk => by
    have hl := (List.getElem?_eq_some_iff.mp hk).1
    have := p_rides (k := k) hP hC hN hS u2 (u3 z (List.mem_of_getElem? hk)).1 hk (by omega)
    rw [p1, p2] at this
    exact this
  have nb : nwh ∉ (trB C 0 tz).map (·.1) := by
    rw [trB_keys]
    exact fun q => (u3 _ q).2 rfl
  have nt : nwh ∉ (tkT ts).map (·.1) := by
    rw [tkT_keys]
    intro q
    obtain ⟨t, ht, e⟩ := List.mem_map.mp q
    exact (t3 t ht).1.2 e
  generalize NetS (stA P) R1 (tkT ts) (trB C 0 tz) = S at e6 hN hS rr
  generalize trB C 0 tz = B at hN nb
  generalize stA P = A at hN
  obtain ⟨δ1, s1, f1, rfl, q6, q7, rfl⟩ := forL_ok (fun _ δ s' => s' = S ∧ ∃ p6 p7, δ = [some (.scr ns), some (.lst (names.map D.str)), some (.lst (zs.map D.int)), some (.lst (ts.map Tk.d)), some (.loc 0), some (.lst (tz.map D.str)), p6, p7, none, none, none, none, none, none, none, none, none, none]) (t := tgT [tgN 6, tgN 7]) (b := g_law_b1) (enD 0 (tz.map D.str)) 0 (fun i d δ s' hd hi => by
      obtain ⟨rfl, p6, p7, rfl⟩ := hi
      obtain ⟨z, hz, rfl⟩ := en_mem hd
      refine ⟨[some (.scr ns), some (.lst (names.map D.str)), some (.lst (zs.map D.int)), some (.lst (ts.map Tk.d)), some (.loc 0), some (.lst (tz.map D.str)), some (.int (i : Int)), some (.str z), none, none, none, none, none, none, none, none, none, none], _, s', rfl, .inl ?_, rfl, some (.int (i : Int)), some (.str z), rfl⟩
      simp [g_law_b1, rr i z hz]) [some (.scr ns), some (.lst (names.map D.str)), some (.lst (zs.map D.int)), some (.lst (ts.map Tk.d)), some (.loc 0), some (.lst (tz.map D.str)), none, none, none, none, none, none, none, none, none, none, none, none] S ⟨rfl, none, none, rfl⟩
  obtain ⟨x3, x30, x31, e7⟩ := p_draw (ns := ns) (k := 11) (s := s1) (by omega)
  have e8 := p_zones (b := 1 + x3 % 63) (s := s1)
  have zr := zr_zones (b := 1 + x3 % 63)
  generalize zonesOf (1 + x3 % 63) = L at e8 zr
  have e9 := p_zbits (s := s1) zr.1
  have e10 := p_lbitsS (s := s1) zr.1 zr.2.1 (by have := zr.2.2; omega)
  generalize L.foldl orZ 0 = v at e9 e10
  have e11 := p_whole (i := v) (s := s1)
  obtain ⟨δ2, s2, f2, rfl, r6, r11, r12, r13, r14, r15, rfl⟩ := forL_ok (fun _ δ s' => s' = s1 ∧ ∃ p6 p11 p12 p13 p14 p15, δ = [some (.scr ns), some (.lst (names.map D.str)), some (.lst (zs.map D.int)), some (.lst (ts.map Tk.d)), some (.loc 0), some (.lst (tz.map D.str)), p6, q7, some (.int x3), some (.lst (L.map D.int)), some (.lst (L.map D.int)), p11, p12, p13, p14, p15, none, none]) (t := tgN 6) (b := g_law_b3) (intsD 0 4) 0 (fun i d δ s' hd hi => by
      obtain ⟨rfl, p6, p11, p12, p13, p14, p15, rfl⟩ := hi
      obtain ⟨j, hj, rfl⟩ := mem_ints (List.mem_of_getElem? hd)
      rw [Int.zero_add]
      obtain ⟨q11, q12, q13, q14, q15, e⟩ := lw_b3 (ns := ns) (o1 := some (.lst (names.map D.str))) (o2 := some (.lst (zs.map D.int))) (o5 := some (.lst (tz.map D.str))) (o7 := q7) (o8 := some (.int x3)) (o9 := some (.lst (L.map D.int))) (o10 := some (.lst (L.map D.int))) (o16 := none) hN t2 t3 hj (o11 := p11) (o12 := p12) (o13 := p13) (o14 := p14) (o15 := p15)
      exact ⟨_, _, s', rfl, .inl e, rfl, some (.int (j : Int)), q11, q12, q13, q14, q15, rfl⟩) [some (.scr ns), some (.lst (names.map D.str)), some (.lst (zs.map D.int)), some (.lst (ts.map Tk.d)), some (.loc 0), some (.lst (tz.map D.str)), q6, q7, some (.int x3), some (.lst (L.map D.int)), some (.lst (L.map D.int)), some (.int v), none, none, none, none, none, none] s1 ⟨rfl, q6, some (.int v), none, none, none, none, rfl⟩
  obtain ⟨od, h1, hod⟩ := atI_ex (xs := [D.non, .bl true, .int 0, .str [], .str [65], .str nwh, .lst [.str [97]], .tup [], .dct [] []]) (i := x3 / 64 % 9) (Q := OddN) (by omega) (by simp; omega) oddn_all
  have g1 := p_notrip hN (b := .non) (o := .non) hod nb
  have g2 := p_noticket hN (b := .int 0) (o := .int 0) hod nt
  have key : g_law [some (.scr ns), none, none, none, none, none, none, none, none, none, none, none, none, none, none, none, none, none] [] = .rt (.bl true) s2 := by
    unfold g_law
    refine seq_step (δ' := [some (.scr ns), some (.lst (names.map D.str)), none, none, none, none, none, none, none, none, none, none, none, none, none, none, none, none]) (s' := []) (by simp [e1, e2]) ?_
    refine seq_step (δ' := [some (.scr ns), some (.lst (names.map D.str)), some (.lst (zs.map D.int)), none, none, none, none, none, none, none, none, none, none, none, none, none, none, none]) (s' := []) (by
      exact zs_step nl.2 e3) ?_
    refine seq_step (δ' := [some (.scr ns), some (.lst (names.map D.str)), some (.lst (zs.map D.int)), some (.lst (ts.map Tk.d)), none, none, none, none, none, none, none, none, none, none, none, none, none, none]) (s' := []) (by simp [e4, e5]) ?_
    refine seq_step (δ' := [some (.scr ns), some (.lst (names.map D.str)), some (.lst (zs.map D.int)), some (.lst (ts.map Tk.d)), some (.loc 0), some (.lst (tz.map D.str)), none, none, none, none, none, none, none, none, none, none, none, none]) (s' := s2) (by simp [e6]) ?_
    refine seq_step (δ' := [some (.scr ns), some (.lst (names.map D.str)), some (.lst (zs.map D.int)), some (.lst (ts.map Tk.d)), some (.loc 0), some (.lst (tz.map D.str)), q6, q7, none, none, none, none, none, none, none, none, none, none]) (s' := s2) (by
      simp only [sFor_eq, itEnum_eq, aCons_eq, aNil_eq, dVar_eq, List.getElem?_cons_succ, List.getElem?_cons_zero, bind_ok, out_ok]
      exact f1) ?_
    refine seq_step (δ' := [some (.scr ns), some (.lst (names.map D.str)), some (.lst (zs.map D.int)), some (.lst (ts.map Tk.d)), some (.loc 0), some (.lst (tz.map D.str)), q6, q7, some (.int x3), none, none, none, none, none, none, none, none, none]) (s' := s2) (by simp [e7]) ?_
    refine seq_step (δ' := [some (.scr ns), some (.lst (names.map D.str)), some (.lst (zs.map D.int)), some (.lst (ts.map Tk.d)), some (.loc 0), some (.lst (tz.map D.str)), q6, q7, some (.int x3), some (.lst (L.map D.int)), none, none, none, none, none, none, none, none]) (s' := s2) (by simp [e8]) ?_
    refine seq_step (δ' := [some (.scr ns), some (.lst (names.map D.str)), some (.lst (zs.map D.int)), some (.lst (ts.map Tk.d)), some (.loc 0), some (.lst (tz.map D.str)), q6, q7, some (.int x3), some (.lst (L.map D.int)), some (.lst (L.map D.int)), none, none, none, none, none, none, none]) (s' := s2) (by simp) ?_
    refine seq_step (δ' := [some (.scr ns), some (.lst (names.map D.str)), some (.lst (zs.map D.int)), some (.lst (ts.map Tk.d)), some (.loc 0), some (.lst (tz.map D.str)), q6, q7, some (.int x3), some (.lst (L.map D.int)), some (.lst (L.map D.int)), some (.int v), none, none, none, none, none, none]) (s' := s2) (by simp [e9]) ?_
    refine seq_step (δ' := [some (.scr ns), some (.lst (names.map D.str)), some (.lst (zs.map D.int)), some (.lst (ts.map Tk.d)), some (.loc 0), some (.lst (tz.map D.str)), q6, q7, some (.int x3), some (.lst (L.map D.int)), some (.lst (L.map D.int)), some (.int v), none, none, none, none, none, none]) (s' := s2) (by simp [e10, e11, ne_ints]) ?_
    refine seq_step (δ' := [some (.scr ns), some (.lst (names.map D.str)), some (.lst (zs.map D.int)), some (.lst (ts.map Tk.d)), some (.loc 0), some (.lst (tz.map D.str)), r6, q7, some (.int x3), some (.lst (L.map D.int)), some (.lst (L.map D.int)), r11, r12, r13, r14, r15, none, none]) (s' := s2) (by
      have s4 : small62 4 = true := by decide
      simp only [sFor_eq, itR1_eq, aCons_eq, aNil_eq, dC_eq, bind_ok, s4, if_true, out_ok]
      exact f2) ?_
    refine seq_step (δ' := [some (.scr ns), some (.lst (names.map D.str)), some (.lst (zs.map D.int)), some (.lst (ts.map Tk.d)), some (.loc 0), some (.lst (tz.map D.str)), r6, q7, some (.int x3), some (.lst (L.map D.int)), some (.lst (L.map D.int)), r11, r12, r13, r14, r15, some od, none]) (s' := s2) (by
      simp only [nwh] at h1
      simp [lim_eq, h1]) ?_
    refine seq_step (δ' := [some (.scr ns), some (.lst (names.map D.str)), some (.lst (zs.map D.int)), some (.lst (ts.map Tk.d)), some (.loc 0), some (.lst (tz.map D.str)), r6, q7, some (.int x3), some (.lst (L.map D.int)), some (.lst (L.map D.int)), r11, r12, r13, r14, r15, some od, none]) (s' := s2) (by simp [g1, ne_trip, lim_eq]) ?_
    simp [g2, eq_tick, lim_eq]
  show finO 0 (g_law [some (.scr ns), none, none, none, none, none, none, none, none, none, none, none, none, none, none, none, none, none] []) = _
  rw [key]
  show cut 0 (.bl true) s2 = _
  unfold Mp.cut
  split
  · rename_i q
    rw [List.length_eq_zero_iff.mp q]
  · rfl
end Rb
namespace Rb
open PySem PySem.Spec L2 Mp
/-! ### the head -/
def d_is_among : He.DefD := ⟨("is_among", none), "is_among", "is_among", defArgs s_is_among, defBody s_is_among, defScope s_is_among, [], []⟩
def d_zone_bits : He.DefD := ⟨("zone_bits", none), "zone_bits", "zone_bits", defArgs s_zone_bits, defBody s_zone_bits, defScope s_zone_bits, [], []⟩
def d_is_name : He.DefD := ⟨("is_name", none), "is_name", "is_name", defArgs s_is_name, defBody s_is_name, defScope s_is_name, [], []⟩
def d_Net_need_trip : He.DefD := ⟨("Net", some "need_trip"), "need_trip", "Net.need_trip", defArgs s_Net_need_trip, defBody s_Net_need_trip, defScope s_Net_need_trip, [], []⟩
def d_Net_calls : He.DefD := ⟨("Net", some "calls"), "calls", "Net.calls", defArgs s_Net_calls, defBody s_Net_calls, defScope s_Net_calls, [], []⟩
def d_Net_need_stop : He.DefD := ⟨("Net", some "need_stop"), "need_stop", "Net.need_stop", defArgs s_Net_need_stop, defBody s_Net_need_stop, defScope s_Net_need_stop, [], []⟩
def d_Net_zone : He.DefD := ⟨("Net", some "zone"), "zone", "Net.zone", defArgs s_Net_zone, defBody s_Net_zone, defScope s_Net_zone, [], []⟩
def d_zones_of : He.DefD := ⟨("zones_of", none), "zones_of", "zones_of", defArgs s_zones_of, defBody s_zones_of, defScope s_zones_of, [], []⟩
def d_Net_ticket : He.DefD := ⟨("Net", some "ticket"), "ticket", "Net.ticket", defArgs s_Net_ticket, defBody s_Net_ticket, defScope s_Net_ticket, [], []⟩
def d_fits : He.DefD := ⟨("fits", none), "fits", "fits", defArgs s_fits, defBody s_fits, defScope s_fits, [], []⟩
def d_need_fresh : He.DefD := ⟨("need_fresh", none), "need_fresh", "need_fresh", defArgs s_need_fresh, defBody s_need_fresh, defScope s_need_fresh, [], []⟩
def d_need_among : He.DefD := ⟨("need_among", none), "need_among", "need_among", defArgs s_need_among, defBody s_need_among, defScope s_need_among, [], []⟩
def d_need_room : He.DefD := ⟨("need_room", none), "need_room", "need_room", defArgs s_need_room, defBody s_need_room, defScope s_need_room, [], []⟩
def d_are_zones : He.DefD := ⟨("are_zones", none), "are_zones", "are_zones", defArgs s_are_zones, defBody s_are_zones, defScope s_are_zones, [], []⟩
def d_are_calls : He.DefD := ⟨("are_calls", none), "are_calls", "are_calls", defArgs s_are_calls, defBody s_are_calls, defScope s_are_calls, [], []⟩
def d_rises : He.DefD := ⟨("rises", none), "rises", "rises", defArgs s_rises, defBody s_rises, defScope s_rises, [], []⟩
def d_Net___init__ : He.DefD := ⟨("Net", some "__init__"), "__init__", "Net.__init__", defArgs s_Net___init__, defBody s_Net___init__, defScope s_Net___init__, [], []⟩
def d_Net_need_rule : He.DefD := ⟨("Net", some "need_rule"), "need_rule", "Net.need_rule", defArgs s_Net_need_rule, defBody s_Net_need_rule, defScope s_Net_need_rule, [], []⟩
def d_Net_add_stop : He.DefD := ⟨("Net", some "add_stop"), "add_stop", "Net.add_stop", defArgs s_Net_add_stop, defBody s_Net_add_stop, defScope s_Net_add_stop, [], []⟩
def d_Net_add_rule : He.DefD := ⟨("Net", some "add_rule"), "add_rule", "Net.add_rule", defArgs s_Net_add_rule, defBody s_Net_add_rule, defScope s_Net_add_rule, [], []⟩
def d_Net_add_ticket : He.DefD := ⟨("Net", some "add_ticket"), "add_ticket", "Net.add_ticket", defArgs s_Net_add_ticket, defBody s_Net_add_ticket, defScope s_Net_add_ticket, [], []⟩
def d_Net_add_trip : He.DefD := ⟨("Net", some "add_trip"), "add_trip", "Net.add_trip", defArgs s_Net_add_trip, defBody s_Net_add_trip, defScope s_Net_add_trip, [], []⟩
def d__law_draw : He.DefD := ⟨("_law_draw", none), "_law_draw", "_law_draw", defArgs s__law_draw, defBody s__law_draw, defScope s__law_draw, [], []⟩
def d__law_whole : He.DefD := ⟨("_law_whole", none), "_law_whole", "_law_whole", defArgs s__law_whole, defBody s__law_whole, defScope s__law_whole, [], []⟩
def d__law_word : He.DefD := ⟨("_law_word", none), "_law_word", "_law_word", defArgs s__law_word, defBody s__law_word, defScope s__law_word, [], []⟩
def d__law_names : He.DefD := ⟨("_law_names", none), "_law_names", "_law_names", defArgs s__law_names, defBody s__law_names, defScope s__law_names, [], []⟩
def d__law_calls : He.DefD := ⟨("_law_calls", none), "_law_calls", "_law_calls", defArgs s__law_calls, defBody s__law_calls, defScope s__law_calls, [], []⟩
def d__law_zones : He.DefD := ⟨("_law_zones", none), "_law_zones", "_law_zones", defArgs s__law_zones, defBody s__law_zones, defScope s__law_zones, [], []⟩
def d__law_tickets : He.DefD := ⟨("_law_tickets", none), "_law_tickets", "_law_tickets", defArgs s__law_tickets, defBody s__law_tickets, defScope s__law_tickets, [], []⟩
def d__law_bits : He.DefD := ⟨("_law_bits", none), "_law_bits", "_law_bits", defArgs s__law_bits, defBody s__law_bits, defScope s__law_bits, [], []⟩
def d__law_net : He.DefD := ⟨("_law_net", none), "_law_net", "_law_net", defArgs s__law_net, defBody s__law_net, defScope s__law_net, [], []⟩
def d__law_refused : He.DefD := ⟨("_law_refused", none), "_law_refused", "_law_refused", defArgs s__law_refused, defBody s__law_refused, defScope s__law_refused, [], []⟩
def d__law_rides_right : He.DefD := ⟨("_law_rides_right", none), "_law_rides_right", "_law_rides_right", defArgs s__law_rides_right, defBody s__law_rides_right, defScope s__law_rides_right, [], []⟩
def d_law : He.DefD := ⟨("law", none), "law", "law", defArgs s_law, defBody s_law, defScope s_law, [], []⟩
def fn : List He.DefD := [d_is_among, d_zone_bits, d_is_name, d_Net_need_trip, d_Net_calls, d_Net_need_stop, d_Net_zone, d_zones_of, d_Net_ticket, d_fits, d_need_fresh, d_need_among, d_need_room, d_are_zones, d_are_calls, d_rises, d_Net___init__, d_Net_need_rule, d_Net_add_stop, d_Net_add_rule, d_Net_add_ticket, d_Net_add_trip, d__law_draw, d__law_whole, d__law_word, d__law_names, d__law_calls, d__law_zones, d__law_tickets, d__law_bits, d__law_net, d__law_refused, d__law_rides_right, d_law]
def fa : List He.Fa := [.glo "is_among", .glo "zone_bits", .glo "is_name", .glo "zones_of", .glo "fits", .glo "need_fresh", .glo "need_among", .glo "need_room", .glo "are_zones", .glo "are_calls", .glo "rises", .glo "_law_draw", .glo "_law_whole", .glo "_law_word", .glo "_law_names", .glo "_law_calls", .glo "_law_zones", .glo "_law_tickets", .glo "_law_bits", .glo "_law_net", .glo "_law_refused", .glo "_law_rides_right", .glo "law", .mkr "Net", .free "ValueError", .free "all", .free "bool", .free "enumerate", .free "int", .free "isinstance", .free "len", .free "list", .free "range", .free "set", .free "sorted", .free "str", .free "sum", .free "tuple", .free "zip", .str "LETTERS" (S [97, 98, 99, 100, 101, 102, 103, 104, 105, 106, 107, 108, 109, 110, 111, 112, 113, 114, 115, 116, 117, 118, 119, 120, 121, 122]), .int "MOST_LETTERS" 8, .int "MOST_MINUTE" 2879, .int "MOST_STOPS" 8, .int "MOST_RULES" 6, .int "MOST_TICKETS" 3, .int "MOST_TRIPS" 10, .int "MOST_CALLS" 6, .int "MOST_ZONE" 6, .glo "RoadError", .glo "BadClock", .glo "BadRule", .glo "TooMany", .glo "BadName", .glo "Twice", .glo "NoStop", .glo "NoRule", .glo "NoTicket", .glo "NoTrip", .glo "BadNumber", .glo "BadCalls", .glo "NoRun", .glo "TooLate", .glo "NoTraveller", .glo "BadLine", .glo "BadRow", .glo "NoPlan", .glo "Rule", .glo "Net"]
abbrev R : PySem.W.OpenRow := PySem.W.OpenLaw.row PySem.Challenge.rw_roadbook_k17_zones_and_tickets
def mo0 : List (Str × Str × Str) := [("Net", "calls", "Net"), ("Net", "zone", "Net"), ("Net", "ticket", "Net"), ("Net", "need_rule", "Net"), ("Net", "need_stop", "Net"), ("Net", "need_trip", "Net"), ("Net", "add_stop", "Net"), ("Net", "add_rule", "Net"), ("Net", "add_ticket", "Net"), ("Net", "add_trip", "Net")]
def moL : List (Str × Str × Str) := mo0
abbrev m0L : List Str := ["Rule"]
def exK (K : PySem.W.Frag) : Bool := exB caT parT n1T K && (obB caT fmT csT 5 K && (kiB caT parA csT K && (moB moL K && mk0B m0L K)))
abbrev hk : PySem.W.Hook := Mp.hookE 5 fa fn exK
def ob (s : PySem.W.SharedT) : Mp.AlE := Mp.obsEG 5 fa fn exK (HandSHeadRun.getT s)
theorem ob_eq (s : PySem.W.SharedT) : ob s = hk.obs s.abs := Mp.obsEG_eq (HandSHeadRun.getT_eq s)
def loose0 : List Str := ["_wall", "RoadError", "BadClock", "BadRule", "TooMany", "BadName", "Twice", "NoStop", "NoRule", "NoTicket", "NoTrip", "BadNumber", "BadCalls", "NoRun", "TooLate", "NoTraveller", "BadLine", "BadRow", "NoPlan", "is_among", "zone_bits", "zones_of", "fits", "Rule", "LETTERS", "MOST_LETTERS", "MOST_MINUTE", "MOST_STOPS", "MOST_RULES", "MOST_TICKETS"]
def loose1 : List Str := ["MOST_TRIPS", "MOST_CALLS", "MOST_ZONE", "is_name", "need_fresh", "need_among", "need_room", "are_zones", "are_calls", "rises", "Net", "_law_draw", "_law_whole", "_law_word", "_law_names", "_law_calls", "_law_zones", "_law_tickets", "_law_bits", "_law_net", "_law_refused", "_law_rides_right"]
abbrev loose : List Str := loose0 ++ loose1
theorem run (w : World) : HandSHeadRun.RunEq R (PySem.W.view R.prog [58]) hk ob 8000 loose w := by
  intro os
  kernel_rfl
section
variable {P : Program} {w : World} {K : PySem.W.Frag} {h : Heap} {mg : Str → Option Value} {f : Addr}
theorem txt (X : K.In h) (G : h.Ns mainGlobals mg) (c : Mp.SaysE fa fn exK K) : Txt K mg where
  f_ValueError := He.free_ok X G (c.d.fact 24 (f := .free "ValueError") rfl)
  f_all := He.free_ok X G (c.d.fact 25 (f := .free "all") rfl)
  f_bool := He.free_ok X G (c.d.fact 26 (f := .free "bool") rfl)
  f_enumerate := He.free_ok X G (c.d.fact 27 (f := .free "enumerate") rfl)
  f_int := He.free_ok X G (c.d.fact 28 (f := .free "int") rfl)
  f_isinstance := He.free_ok X G (c.d.fact 29 (f := .free "isinstance") rfl)
  f_len := He.free_ok X G (c.d.fact 30 (f := .free "len") rfl)
  f_list := He.free_ok X G (c.d.fact 31 (f := .free "list") rfl)
  f_range := He.free_ok X G (c.d.fact 32 (f := .free "range") rfl)
  f_set := He.free_ok X G (c.d.fact 33 (f := .free "set") rfl)
  f_sorted := He.free_ok X G (c.d.fact 34 (f := .free "sorted") rfl)
  f_str := He.free_ok X G (c.d.fact 35 (f := .free "str") rfl)
  f_sum := He.free_ok X G (c.d.fact 36 (f := .free "sum") rfl)
  f_tuple := He.free_ok X G (c.d.fact 37 (f := .free "tuple") rfl)
  f_zip := He.free_ok X G (c.d.fact 38 (f := .free "zip") rfl)
  k_LETTERS := let ⟨t, e⟩ := He.str_ok X G (c.d.fact 39 (f := .str "LETTERS" (S [97, 98, 99, 100, 101, 102, 103, 104, 105, 106, 107, 108, 109, 110, 111, 112, 113, 114, 115, 116, 117, 118, 119, 120, 121, 122])) rfl); ⟨_, e, _, rfl⟩
  k_MOST_LETTERS := let ⟨t, e⟩ := He.int_ok X G (c.d.fact 40 (f := .int "MOST_LETTERS" 8) rfl); ⟨_, e, _, rfl⟩
  k_MOST_MINUTE := let ⟨t, e⟩ := He.int_ok X G (c.d.fact 41 (f := .int "MOST_MINUTE" 2879) rfl); ⟨_, e, _, rfl⟩
  k_MOST_STOPS := let ⟨t, e⟩ := He.int_ok X G (c.d.fact 42 (f := .int "MOST_STOPS" 8) rfl); ⟨_, e, _, rfl⟩
  k_MOST_RULES := let ⟨t, e⟩ := He.int_ok X G (c.d.fact 43 (f := .int "MOST_RULES" 6) rfl); ⟨_, e, _, rfl⟩
  k_MOST_TICKETS := let ⟨t, e⟩ := He.int_ok X G (c.d.fact 44 (f := .int "MOST_TICKETS" 3) rfl); ⟨_, e, _, rfl⟩
  k_MOST_TRIPS := let ⟨t, e⟩ := He.int_ok X G (c.d.fact 45 (f := .int "MOST_TRIPS" 10) rfl); ⟨_, e, _, rfl⟩
  k_MOST_CALLS := let ⟨t, e⟩ := He.int_ok X G (c.d.fact 46 (f := .int "MOST_CALLS" 6) rfl); ⟨_, e, _, rfl⟩
  k_MOST_ZONE := let ⟨t, e⟩ := He.int_ok X G (c.d.fact 47 (f := .int "MOST_ZONE" 6) rfl); ⟨_, e, _, rfl⟩
  c_RoadError := He.glo_ok X G (c.d.fact 48 (f := .glo "RoadError") rfl)
  c_BadClock := He.glo_ok X G (c.d.fact 49 (f := .glo "BadClock") rfl)
  c_BadRule := He.glo_ok X G (c.d.fact 50 (f := .glo "BadRule") rfl)
  c_TooMany := He.glo_ok X G (c.d.fact 51 (f := .glo "TooMany") rfl)
  c_BadName := He.glo_ok X G (c.d.fact 52 (f := .glo "BadName") rfl)
  c_Twice := He.glo_ok X G (c.d.fact 53 (f := .glo "Twice") rfl)
  c_NoStop := He.glo_ok X G (c.d.fact 54 (f := .glo "NoStop") rfl)
  c_NoRule := He.glo_ok X G (c.d.fact 55 (f := .glo "NoRule") rfl)
  c_NoTicket := He.glo_ok X G (c.d.fact 56 (f := .glo "NoTicket") rfl)
  c_NoTrip := He.glo_ok X G (c.d.fact 57 (f := .glo "NoTrip") rfl)
  c_BadNumber := He.glo_ok X G (c.d.fact 58 (f := .glo "BadNumber") rfl)
  c_BadCalls := He.glo_ok X G (c.d.fact 59 (f := .glo "BadCalls") rfl)
  c_NoRun := He.glo_ok X G (c.d.fact 60 (f := .glo "NoRun") rfl)
  c_TooLate := He.glo_ok X G (c.d.fact 61 (f := .glo "TooLate") rfl)
  c_NoTraveller := He.glo_ok X G (c.d.fact 62 (f := .glo "NoTraveller") rfl)
  c_BadLine := He.glo_ok X G (c.d.fact 63 (f := .glo "BadLine") rfl)
  c_BadRow := He.glo_ok X G (c.d.fact 64 (f := .glo "BadRow") rfl)
  c_NoPlan := He.glo_ok X G (c.d.fact 65 (f := .glo "NoPlan") rfl)
  c_Rule := He.glo_ok X G (c.d.fact 66 (f := .glo "Rule") rfl)
  c_Net := He.glo_ok X G (c.d.fact 67 (f := .glo "Net") rfl)
  xt := exT_of (He.ba (show (exB caT parT n1T K && _) = true from c.more)).1
  ob := obT_of (He.ba (He.ba (show (exB caT parT n1T K && (obB caT fmT csT 5 K && _)) = true from c.more)).2).1 (by decide +kernel)
  ki := kiT_of (He.ba (He.ba (He.ba (show (exB caT parT n1T K && (obB caT fmT csT 5 K && (kiB caT parA csT K && _))) = true from c.more)).2).2).1
  m0_Rule := mk0_ok (l := m0L) (He.ba (He.ba (He.ba (He.ba (show (exB caT parT n1T K && (obB caT fmT csT 5 K && (kiB caT parA csT K && (moB moL K && mk0B m0L K)))) = true from c.more)).2).2).2).2 (c := "Rule") (by decide +kernel)
theorem mot (c : Mp.SaysE fa fn exK K) : moB moL K = true := (He.ba (He.ba (He.ba (He.ba (show (exB caT parT n1T K && (obB caT fmT csT 5 K && (kiB caT parA csT K && (moB moL K && mk0B m0L K)))) = true from c.more)).2).2).2).1
theorem ok_is_among {base : Heap} (X : K.In h) (G : h.Ns mainGlobals mg) (c : Mp.SaysE fa fn exK K) : Okd (tb K) P w mg base (He.fAd K ("is_among", none)) 1 3 f_is_among := by
  obtain ⟨fd, F⟩ := c.d.def_ 0 (d := d_is_among) rfl
  exact ⟨fd, ["thing", "least", "most"], F.kp, F.bindsN fun _ _ _ _ _ _ us hl => match us, hl with | [_, _, _], _ => rfl, fn_d (T := tb K) F sc_is_among fun cdv A outer s H E hr => b_is_among (txt X G c)  cdv A outer s H E hr⟩
theorem ok_zone_bits {base : Heap} (X : K.In h) (G : h.Ns mainGlobals mg) (c : Mp.SaysE fa fn exK K) : Okd (tb K) P w mg base (He.fAd K ("zone_bits", none)) 1 1 f_zone_bits := by
  obtain ⟨fd, F⟩ := c.d.def_ 1 (d := d_zone_bits) rfl
  exact ⟨fd, ["zones"], F.kp, F.bindsN fun _ _ _ _ _ _ us hl => match us, hl with | [_], _ => rfl, fn_d (T := tb K) F sc_zone_bits fun cdv A outer s H E hr => b_zone_bits (txt X G c)  cdv A outer s H E hr⟩
theorem ok_is_name {base : Heap} (X : K.In h) (G : h.Ns mainGlobals mg) (c : Mp.SaysE fa fn exK K) : Okd (tb K) P w mg base (He.fAd K ("is_name", none)) 1 1 f_is_name := by
  obtain ⟨fd, F⟩ := c.d.def_ 2 (d := d_is_name) rfl
  exact ⟨fd, ["thing"], F.kp, F.bindsN fun _ _ _ _ _ _ us hl => match us, hl with | [_], _ => rfl, fn_d (T := tb K) F sc_is_name fun cdv A outer s H E hr => b_is_name (txt X G c)  cdv A outer s H E hr⟩
theorem ok_Net_need_trip {base : Heap} (X : K.In h) (G : h.Ns mainGlobals mg) (c : Mp.SaysE fa fn exK K) : Okd (tb K) P w mg base (He.fAd K ("Net", some "need_trip")) 2 2 f_Net_need_trip := by
  obtain ⟨fd, F⟩ := c.d.def_ 3 (d := d_Net_need_trip) rfl
  exact ⟨fd, ["self", "trip"], F.kp, F.bindsN fun _ _ _ _ _ _ us hl => match us, hl with | [_, _], _ => rfl, fn_d (T := tb K) F sc_Net_need_trip fun cdv A outer s H E hr => b_Net_need_trip (txt X G c) ((ok_is_name X G c).cl (He.glo_ok X G (c.d.fact 2 (f := .glo "is_name") rfl))) cdv A outer s H E hr⟩
theorem ok_Net_calls {base : Heap} (X : K.In h) (G : h.Ns mainGlobals mg) (c : Mp.SaysE fa fn exK K) : Okd (tb K) P w mg base (He.fAd K ("Net", some "calls")) 3 2 f_Net_calls := by
  obtain ⟨fd, F⟩ := c.d.def_ 4 (d := d_Net_calls) rfl
  exact ⟨fd, ["self", "trip"], F.kp, F.bindsN fun _ _ _ _ _ _ us hl => match us, hl with | [_, _], _ => rfl, fn_d (T := tb K) F sc_Net_calls fun cdv A outer s H E hr => b_Net_calls (txt X G c) ((ok_Net_need_trip X G c).mc ((txt X G c).ob.cls 19 (by decide)) (mo_ok (mot c) (c := "Net") (m := "need_trip") (b := "Net") (by decide +kernel))) cdv A outer s H E hr⟩
theorem ok_Net_need_stop {base : Heap} (X : K.In h) (G : h.Ns mainGlobals mg) (c : Mp.SaysE fa fn exK K) : Okd (tb K) P w mg base (He.fAd K ("Net", some "need_stop")) 2 2 f_Net_need_stop := by
  obtain ⟨fd, F⟩ := c.d.def_ 5 (d := d_Net_need_stop) rfl
  exact ⟨fd, ["self", "stop"], F.kp, F.bindsN fun _ _ _ _ _ _ us hl => match us, hl with | [_, _], _ => rfl, fn_d (T := tb K) F sc_Net_need_stop fun cdv A outer s H E hr => b_Net_need_stop (txt X G c) ((ok_is_name X G c).cl (He.glo_ok X G (c.d.fact 2 (f := .glo "is_name") rfl))) cdv A outer s H E hr⟩
theorem ok_Net_zone {base : Heap} (X : K.In h) (G : h.Ns mainGlobals mg) (c : Mp.SaysE fa fn exK K) : Okd (tb K) P w mg base (He.fAd K ("Net", some "zone")) 3 2 f_Net_zone := by
  obtain ⟨fd, F⟩ := c.d.def_ 6 (d := d_Net_zone) rfl
  exact ⟨fd, ["self", "stop"], F.kp, F.bindsN fun _ _ _ _ _ _ us hl => match us, hl with | [_, _], _ => rfl, fn_d (T := tb K) F sc_Net_zone fun cdv A outer s H E hr => b_Net_zone (txt X G c) ((ok_Net_need_stop X G c).mc ((txt X G c).ob.cls 19 (by decide)) (mo_ok (mot c) (c := "Net") (m := "need_stop") (b := "Net") (by decide +kernel))) cdv A outer s H E hr⟩
theorem ok_zones_of {base : Heap} (X : K.In h) (G : h.Ns mainGlobals mg) (c : Mp.SaysE fa fn exK K) : Okd (tb K) P w mg base (He.fAd K ("zones_of", none)) 4 4 f_zones_of := by
  obtain ⟨fd, F⟩ := c.d.def_ 7 (d := d_zones_of) rfl
  exact ⟨fd, ["net", "trip", "board", "off"], F.kp, F.bindsN fun _ _ _ _ _ _ us hl => match us, hl with | [_, _, _, _], _ => rfl, fn_d (T := tb K) F sc_zones_of fun cdv A outer s H E hr => b_zones_of (txt X G c) ((ok_is_among X G c).cl (He.glo_ok X G (c.d.fact 0 (f := .glo "is_among") rfl))) ((ok_zone_bits X G c).cl (He.glo_ok X G (c.d.fact 1 (f := .glo "zone_bits") rfl))) ((ok_Net_calls X G c).mc ((txt X G c).ob.cls 19 (by decide)) (mo_ok (mot c) (c := "Net") (m := "calls") (b := "Net") (by decide +kernel))) ((ok_Net_zone X G c).mc ((txt X G c).ob.cls 19 (by decide)) (mo_ok (mot c) (c := "Net") (m := "zone") (b := "Net") (by decide +kernel))) cdv A outer s H E hr⟩
theorem ok_Net_ticket {base : Heap} (X : K.In h) (G : h.Ns mainGlobals mg) (c : Mp.SaysE fa fn exK K) : Okd (tb K) P w mg base (He.fAd K ("Net", some "ticket")) 2 2 f_Net_ticket := by
  obtain ⟨fd, F⟩ := c.d.def_ 8 (d := d_Net_ticket) rfl
  exact ⟨fd, ["self", "name"], F.kp, F.bindsN fun _ _ _ _ _ _ us hl => match us, hl with | [_, _], _ => rfl, fn_d (T := tb K) F sc_Net_ticket fun cdv A outer s H E hr => b_Net_ticket (txt X G c) ((ok_is_name X G c).cl (He.glo_ok X G (c.d.fact 2 (f := .glo "is_name") rfl))) cdv A outer s H E hr⟩
theorem ok_fits {base : Heap} (X : K.In h) (G : h.Ns mainGlobals mg) (c : Mp.SaysE fa fn exK K) : Okd (tb K) P w mg base (He.fAd K ("fits", none)) 3 3 f_fits := by
  obtain ⟨fd, F⟩ := c.d.def_ 9 (d := d_fits) rfl
  exact ⟨fd, ["net", "ticket", "bits"], F.kp, F.bindsN fun _ _ _ _ _ _ us hl => match us, hl with | [_, _, _], _ => rfl, fn_d (T := tb K) F sc_fits fun cdv A outer s H E hr => b_fits (txt X G c) ((ok_zone_bits X G c).cl (He.glo_ok X G (c.d.fact 1 (f := .glo "zone_bits") rfl))) ((ok_Net_ticket X G c).mc ((txt X G c).ob.cls 19 (by decide)) (mo_ok (mot c) (c := "Net") (m := "ticket") (b := "Net") (by decide +kernel))) cdv A outer s H E hr⟩
theorem ok_need_fresh {base : Heap} (X : K.In h) (G : h.Ns mainGlobals mg) (c : Mp.SaysE fa fn exK K) : Okd (tb K) P w mg base (He.fAd K ("need_fresh", none)) 2 2 f_need_fresh := by
  obtain ⟨fd, F⟩ := c.d.def_ 10 (d := d_need_fresh) rfl
  exact ⟨fd, ["name", "kept"], F.kp, F.bindsN fun _ _ _ _ _ _ us hl => match us, hl with | [_, _], _ => rfl, fn_d (T := tb K) F sc_need_fresh fun cdv A outer s H E hr => b_need_fresh (txt X G c) ((ok_is_name X G c).cl (He.glo_ok X G (c.d.fact 2 (f := .glo "is_name") rfl))) cdv A outer s H E hr⟩
theorem ok_need_among {base : Heap} (X : K.In h) (G : h.Ns mainGlobals mg) (c : Mp.SaysE fa fn exK K) : Okd (tb K) P w mg base (He.fAd K ("need_among", none)) 2 3 f_need_among := by
  obtain ⟨fd, F⟩ := c.d.def_ 11 (d := d_need_among) rfl
  exact ⟨fd, ["thing", "least", "most"], F.kp, F.bindsN fun _ _ _ _ _ _ us hl => match us, hl with | [_, _, _], _ => rfl, fn_d (T := tb K) F sc_need_among fun cdv A outer s H E hr => b_need_among (txt X G c) ((ok_is_among X G c).cl (He.glo_ok X G (c.d.fact 0 (f := .glo "is_among") rfl))) cdv A outer s H E hr⟩
theorem ok_need_room {base : Heap} (X : K.In h) (G : h.Ns mainGlobals mg) (c : Mp.SaysE fa fn exK K) : Okd (tb K) P w mg base (He.fAd K ("need_room", none)) 1 2 f_need_room := by
  obtain ⟨fd, F⟩ := c.d.def_ 12 (d := d_need_room) rfl
  exact ⟨fd, ["kept", "most"], F.kp, F.bindsN fun _ _ _ _ _ _ us hl => match us, hl with | [_, _], _ => rfl, fn_d (T := tb K) F sc_need_room fun cdv A outer s H E hr => b_need_room (txt X G c)  cdv A outer s H E hr⟩
theorem ok_are_zones {base : Heap} (X : K.In h) (G : h.Ns mainGlobals mg) (c : Mp.SaysE fa fn exK K) : Okd (tb K) P w mg base (He.fAd K ("are_zones", none)) 2 1 f_are_zones := by
  obtain ⟨fd, F⟩ := c.d.def_ 13 (d := d_are_zones) rfl
  exact ⟨fd, ["thing"], F.kp, F.bindsN fun _ _ _ _ _ _ us hl => match us, hl with | [_], _ => rfl, fn_d (T := tb K) F sc_are_zones fun cdv A outer s H E hr => b_are_zones (txt X G c) ((ok_is_among X G c).cl (He.glo_ok X G (c.d.fact 0 (f := .glo "is_among") rfl))) cdv A outer s H E hr⟩
theorem ok_are_calls {base : Heap} (X : K.In h) (G : h.Ns mainGlobals mg) (c : Mp.SaysE fa fn exK K) : Okd (tb K) P w mg base (He.fAd K ("are_calls", none)) 1 1 f_are_calls := by
  obtain ⟨fd, F⟩ := c.d.def_ 14 (d := d_are_calls) rfl
  exact ⟨fd, ["thing"], F.kp, F.bindsN fun _ _ _ _ _ _ us hl => match us, hl with | [_], _ => rfl, fn_d (T := tb K) F sc_are_calls fun cdv A outer s H E hr => b_are_calls (txt X G c)  cdv A outer s H E hr⟩
theorem ok_rises {base : Heap} (X : K.In h) (G : h.Ns mainGlobals mg) (c : Mp.SaysE fa fn exK K) : Okd (tb K) P w mg base (He.fAd K ("rises", none)) 1 2 f_rises := by
  obtain ⟨fd, F⟩ := c.d.def_ 15 (d := d_rises) rfl
  exact ⟨fd, ["ahead", "call"], F.kp, F.bindsN fun _ _ _ _ _ _ us hl => match us, hl with | [_, _], _ => rfl, fn_d (T := tb K) F sc_rises fun cdv A outer s H E hr => b_rises (txt X G c)  cdv A outer s H E hr⟩
theorem ok_Net___init__ {base : Heap} (X : K.In h) (G : h.Ns mainGlobals mg) (c : Mp.SaysE fa fn exK K) : Okd (tb K) P w mg base (He.fAd K ("Net", some "__init__")) 1 1 f_Net___init__ := by
  obtain ⟨fd, F⟩ := c.d.def_ 16 (d := d_Net___init__) rfl
  exact ⟨fd, ["self"], F.kp, F.bindsN fun _ _ _ _ _ _ us hl => match us, hl with | [_], _ => rfl, fn_d (T := tb K) F sc_Net___init__ fun cdv A outer s H E hr => b_Net___init__ (txt X G c)  cdv A outer s H E hr⟩
theorem ok_Net_need_rule {base : Heap} (X : K.In h) (G : h.Ns mainGlobals mg) (c : Mp.SaysE fa fn exK K) : Okd (tb K) P w mg base (He.fAd K ("Net", some "need_rule")) 2 2 f_Net_need_rule := by
  obtain ⟨fd, F⟩ := c.d.def_ 17 (d := d_Net_need_rule) rfl
  exact ⟨fd, ["self", "name"], F.kp, F.bindsN fun _ _ _ _ _ _ us hl => match us, hl with | [_, _], _ => rfl, fn_d (T := tb K) F sc_Net_need_rule fun cdv A outer s H E hr => b_Net_need_rule (txt X G c) ((ok_is_name X G c).cl (He.glo_ok X G (c.d.fact 2 (f := .glo "is_name") rfl))) cdv A outer s H E hr⟩
theorem ok_Net_add_stop {base : Heap} (X : K.In h) (G : h.Ns mainGlobals mg) (c : Mp.SaysE fa fn exK K) : Okd (tb K) P w mg base (He.fAd K ("Net", some "add_stop")) 3 4 f_Net_add_stop := by
  obtain ⟨fd, F⟩ := c.d.def_ 18 (d := d_Net_add_stop) rfl
  exact ⟨fd, ["self", "name", "zone", "change"], F.kp, F.bindsN fun _ _ _ _ _ _ us hl => match us, hl with | [_, _, _, _], _ => rfl, fn_d (T := tb K) F sc_Net_add_stop fun cdv A outer s H E hr => b_Net_add_stop (txt X G c) ((ok_need_fresh X G c).cl (He.glo_ok X G (c.d.fact 5 (f := .glo "need_fresh") rfl))) ((ok_need_among X G c).cl (He.glo_ok X G (c.d.fact 6 (f := .glo "need_among") rfl))) ((ok_need_room X G c).cl (He.glo_ok X G (c.d.fact 7 (f := .glo "need_room") rfl))) cdv A outer s H E hr⟩
theorem ok_Net_add_rule {base : Heap} (X : K.In h) (G : h.Ns mainGlobals mg) (c : Mp.SaysE fa fn exK K) : Okd (tb K) P w mg base (He.fAd K ("Net", some "add_rule")) 3 3 f_Net_add_rule := by
  obtain ⟨fd, F⟩ := c.d.def_ 19 (d := d_Net_add_rule) rfl
  exact ⟨fd, ["self", "name", "rule"], F.kp, F.bindsN fun _ _ _ _ _ _ us hl => match us, hl with | [_, _, _], _ => rfl, fn_d (T := tb K) F sc_Net_add_rule fun cdv A outer s H E hr => b_Net_add_rule (txt X G c) ((ok_need_fresh X G c).cl (He.glo_ok X G (c.d.fact 5 (f := .glo "need_fresh") rfl))) ((ok_need_room X G c).cl (He.glo_ok X G (c.d.fact 7 (f := .glo "need_room") rfl))) cdv A outer s H E hr⟩
theorem ok_Net_add_ticket {base : Heap} (X : K.In h) (G : h.Ns mainGlobals mg) (c : Mp.SaysE fa fn exK K) : Okd (tb K) P w mg base (He.fAd K ("Net", some "add_ticket")) 3 5 f_Net_add_ticket := by
  obtain ⟨fd, F⟩ := c.d.def_ 20 (d := d_Net_add_ticket) rfl
  exact ⟨fd, ["self", "name", "price", "lasts", "zones"], F.kp, F.bindsN fun _ _ _ _ _ _ us hl => match us, hl with | [_, _, _, _, _], _ => rfl, fn_d (T := tb K) F sc_Net_add_ticket fun cdv A outer s H E hr => b_Net_add_ticket (txt X G c) ((ok_need_fresh X G c).cl (He.glo_ok X G (c.d.fact 5 (f := .glo "need_fresh") rfl))) ((ok_need_among X G c).cl (He.glo_ok X G (c.d.fact 6 (f := .glo "need_among") rfl))) ((ok_are_zones X G c).cl (He.glo_ok X G (c.d.fact 8 (f := .glo "are_zones") rfl))) ((ok_need_room X G c).cl (He.glo_ok X G (c.d.fact 7 (f := .glo "need_room") rfl))) cdv A outer s H E hr⟩
theorem ok_Net_add_trip {base : Heap} (X : K.In h) (G : h.Ns mainGlobals mg) (c : Mp.SaysE fa fn exK K) : Okd (tb K) P w mg base (He.fAd K ("Net", some "add_trip")) 3 4 f_Net_add_trip := by
  obtain ⟨fd, F⟩ := c.d.def_ 21 (d := d_Net_add_trip) rfl
  exact ⟨fd, ["self", "name", "rule", "calls"], F.kp, F.bindsN fun _ _ _ _ _ _ us hl => match us, hl with | [_, _, _, _], _ => rfl, fn_d (T := tb K) F sc_Net_add_trip fun cdv A outer s H E hr => b_Net_add_trip (txt X G c) ((ok_need_fresh X G c).cl (He.glo_ok X G (c.d.fact 5 (f := .glo "need_fresh") rfl))) ((ok_are_calls X G c).cl (He.glo_ok X G (c.d.fact 9 (f := .glo "are_calls") rfl))) ((ok_need_among X G c).cl (He.glo_ok X G (c.d.fact 6 (f := .glo "need_among") rfl))) ((ok_rises X G c).cl (He.glo_ok X G (c.d.fact 10 (f := .glo "rises") rfl))) ((ok_need_room X G c).cl (He.glo_ok X G (c.d.fact 7 (f := .glo "need_room") rfl))) ((ok_Net_need_rule X G c).mc ((txt X G c).ob.cls 19 (by decide)) (mo_ok (mot c) (c := "Net") (m := "need_rule") (b := "Net") (by decide +kernel))) ((ok_Net_need_stop X G c).mc ((txt X G c).ob.cls 19 (by decide)) (mo_ok (mot c) (c := "Net") (m := "need_stop") (b := "Net") (by decide +kernel))) cdv A outer s H E hr⟩
theorem ok__law_draw {base : Heap} (X : K.In h) (G : h.Ns mainGlobals mg) (c : Mp.SaysE fa fn exK K) : Okd (tb K) P w mg base (He.fAd K ("_law_draw", none)) 1 2 f__law_draw := by
  obtain ⟨fd, F⟩ := c.d.def_ 22 (d := d__law_draw) rfl
  exact ⟨fd, ["_law_script", "_law_k"], F.kp, F.bindsN fun _ _ _ _ _ _ us hl => match us, hl with | [_, _], _ => rfl, fn_d (T := tb K) F sc__law_draw fun cdv A outer s H E hr => b__law_draw (txt X G c)  cdv A outer s H E hr⟩
theorem ok__law_whole {base : Heap} (X : K.In h) (G : h.Ns mainGlobals mg) (c : Mp.SaysE fa fn exK K) : Okd (tb K) P w mg base (He.fAd K ("_law_whole", none)) 1 1 f__law_whole := by
  obtain ⟨fd, F⟩ := c.d.def_ 23 (d := d__law_whole) rfl
  exact ⟨fd, ["_law_found"], F.kp, F.bindsN fun _ _ _ _ _ _ us hl => match us, hl with | [_], _ => rfl, fn_d (T := tb K) F sc__law_whole fun cdv A outer s H E hr => b__law_whole (txt X G c)  cdv A outer s H E hr⟩
theorem ok__law_word {base : Heap} (X : K.In h) (G : h.Ns mainGlobals mg) (c : Mp.SaysE fa fn exK K) : Okd (tb K) P w mg base (He.fAd K ("_law_word", none)) 1 1 f__law_word := by
  obtain ⟨fd, F⟩ := c.d.def_ 24 (d := d__law_word) rfl
  exact ⟨fd, ["_law_e"], F.kp, F.bindsN fun _ _ _ _ _ _ us hl => match us, hl with | [_], _ => rfl, fn_d (T := tb K) F sc__law_word fun cdv A outer s H E hr => b__law_word (txt X G c)  cdv A outer s H E hr⟩
theorem ok__law_names {base : Heap} (X : K.In h) (G : h.Ns mainGlobals mg) (c : Mp.SaysE fa fn exK K) : Okd (tb K) P w mg base (He.fAd K ("_law_names", none)) 2 3 f__law_names := by
  obtain ⟨fd, F⟩ := c.d.def_ 25 (d := d__law_names) rfl
  exact ⟨fd, ["_law_script", "_law_k", "_law_many"], F.kp, F.bindsN fun _ _ _ _ _ _ us hl => match us, hl with | [_, _, _], _ => rfl, fn_d (T := tb K) F sc__law_names fun cdv A outer s H E hr => b__law_names (txt X G c) ((ok__law_draw X G c).cl (He.glo_ok X G (c.d.fact 11 (f := .glo "_law_draw") rfl))) cdv A outer s H E hr⟩
theorem ok__law_calls {base : Heap} (X : K.In h) (G : h.Ns mainGlobals mg) (c : Mp.SaysE fa fn exK K) : Okd (tb K) P w mg base (He.fAd K ("_law_calls", none)) 2 3 f__law_calls := by
  obtain ⟨fd, F⟩ := c.d.def_ 26 (d := d__law_calls) rfl
  exact ⟨fd, ["_law_script", "_law_k", "_law_names_here"], F.kp, F.bindsN fun _ _ _ _ _ _ us hl => match us, hl with | [_, _, _], _ => rfl, fn_d (T := tb K) F sc__law_calls fun cdv A outer s H E hr => b__law_calls (txt X G c) ((ok__law_draw X G c).cl (He.glo_ok X G (c.d.fact 11 (f := .glo "_law_draw") rfl))) cdv A outer s H E hr⟩
theorem ok__law_zones {base : Heap} (X : K.In h) (G : h.Ns mainGlobals mg) (c : Mp.SaysE fa fn exK K) : Okd (tb K) P w mg base (He.fAd K ("_law_zones", none)) 1 1 f__law_zones := by
  obtain ⟨fd, F⟩ := c.d.def_ 27 (d := d__law_zones) rfl
  exact ⟨fd, ["_law_bits_here"], F.kp, F.bindsN fun _ _ _ _ _ _ us hl => match us, hl with | [_], _ => rfl, fn_d (T := tb K) F sc__law_zones fun cdv A outer s H E hr => b__law_zones (txt X G c)  cdv A outer s H E hr⟩
theorem ok__law_tickets {base : Heap} (X : K.In h) (G : h.Ns mainGlobals mg) (c : Mp.SaysE fa fn exK K) : Okd (tb K) P w mg base (He.fAd K ("_law_tickets", none)) 3 3 f__law_tickets := by
  obtain ⟨fd, F⟩ := c.d.def_ 28 (d := d__law_tickets) rfl
  exact ⟨fd, ["_law_script", "_law_k", "_law_many"], F.kp, F.bindsN fun _ _ _ _ _ _ us hl => match us, hl with | [_, _, _], _ => rfl, fn_d (T := tb K) F sc__law_tickets fun cdv A outer s H E hr => b__law_tickets (txt X G c) ((ok__law_names X G c).cl (He.glo_ok X G (c.d.fact 14 (f := .glo "_law_names") rfl))) ((ok__law_draw X G c).cl (He.glo_ok X G (c.d.fact 11 (f := .glo "_law_draw") rfl))) ((ok__law_zones X G c).cl (He.glo_ok X G (c.d.fact 16 (f := .glo "_law_zones") rfl))) cdv A outer s H E hr⟩
theorem ok__law_bits {base : Heap} (X : K.In h) (G : h.Ns mainGlobals mg) (c : Mp.SaysE fa fn exK K) : Okd (tb K) P w mg base (He.fAd K ("_law_bits", none)) 1 1 f__law_bits := by
  obtain ⟨fd, F⟩ := c.d.def_ 29 (d := d__law_bits) rfl
  exact ⟨fd, ["_law_zones_here"], F.kp, F.bindsN fun _ _ _ _ _ _ us hl => match us, hl with | [_], _ => rfl, fn_d (T := tb K) F sc__law_bits fun cdv A outer s H E hr => b__law_bits (txt X G c)  cdv A outer s H E hr⟩
theorem ok__law_net {base : Heap} (X : K.In h) (G : h.Ns mainGlobals mg) (c : Mp.SaysE fa fn exK K) : Okd (tb K) P w mg base (He.fAd K ("_law_net", none)) 4 4 f__law_net := by
  obtain ⟨fd, F⟩ := c.d.def_ 30 (d := d__law_net) rfl
  exact ⟨fd, ["_law_script", "_law_names_here", "_law_zones_here", "_law_tickets_here"], F.kp, F.bindsN fun _ _ _ _ _ _ us hl => match us, hl with | [_, _, _, _], _ => rfl, fn_d (T := tb K) F sc__law_net fun cdv A outer s H E hr => b__law_net (txt X G c) ((ok__law_draw X G c).cl (He.glo_ok X G (c.d.fact 11 (f := .glo "_law_draw") rfl))) ((ok__law_names X G c).cl (He.glo_ok X G (c.d.fact 14 (f := .glo "_law_names") rfl))) ((ok__law_calls X G c).cl (He.glo_ok X G (c.d.fact 15 (f := .glo "_law_calls") rfl))) ((ok_Net_add_stop X G c).mc ((txt X G c).ob.cls 19 (by decide)) (mo_ok (mot c) (c := "Net") (m := "add_stop") (b := "Net") (by decide +kernel))) ((ok_Net_add_rule X G c).mc ((txt X G c).ob.cls 19 (by decide)) (mo_ok (mot c) (c := "Net") (m := "add_rule") (b := "Net") (by decide +kernel))) ((ok_Net_add_ticket X G c).mc ((txt X G c).ob.cls 19 (by decide)) (mo_ok (mot c) (c := "Net") (m := "add_ticket") (b := "Net") (by decide +kernel))) ((ok_Net_add_trip X G c).mc ((txt X G c).ob.cls 19 (by decide)) (mo_ok (mot c) (c := "Net") (m := "add_trip") (b := "Net") (by decide +kernel))) ((ok_Net___init__ X G c).mkr (He.mkr_ok (c.d.fact 23 (f := .mkr "Net") rfl)) (He.glo_ok X G (c.d.fact 67 (f := .glo "Net") rfl))) cdv A outer s H E hr⟩
theorem ok__law_refused {base : Heap} (X : K.In h) (G : h.Ns mainGlobals mg) (c : Mp.SaysE fa fn exK K) : Okd (tb K) P w mg base (He.fAd K ("_law_refused", none)) 5 5 f__law_refused := by
  obtain ⟨fd, F⟩ := c.d.def_ 31 (d := d__law_refused) rfl
  exact ⟨fd, ["_law_way", "_law_net_here", "_law_name", "_law_board", "_law_off"], F.kp, F.bindsN fun _ _ _ _ _ _ us hl => match us, hl with | [_, _, _, _, _], _ => rfl, fn_d (T := tb K) F sc__law_refused fun cdv A outer s H E hr => b__law_refused (txt X G c) ((ok_zones_of X G c).cl (He.glo_ok X G (c.d.fact 3 (f := .glo "zones_of") rfl))) ((ok_fits X G c).cl (He.glo_ok X G (c.d.fact 4 (f := .glo "fits") rfl))) ((ok__law_word X G c).cl (He.glo_ok X G (c.d.fact 13 (f := .glo "_law_word") rfl))) cdv A outer s H E hr⟩
theorem ok__law_rides_right {base : Heap} (X : K.In h) (G : h.Ns mainGlobals mg) (c : Mp.SaysE fa fn exK K) : Okd (tb K) P w mg base (He.fAd K ("_law_rides_right", none)) 6 6 f__law_rides_right := by
  obtain ⟨fd, F⟩ := c.d.def_ 32 (d := d__law_rides_right) rfl
  exact ⟨fd, ["_law_script", "_law_net_here", "_law_trip", "_law_k", "_law_names_here", "_law_zones_here"], F.kp, F.bindsN fun _ _ _ _ _ _ us hl => match us, hl with | [_, _, _, _, _, _], _ => rfl, fn_d (T := tb K) F sc__law_rides_right fun cdv A outer s H E hr => b__law_rides_right (txt X G c) ((ok__law_calls X G c).cl (He.glo_ok X G (c.d.fact 15 (f := .glo "_law_calls") rfl))) ((ok_zones_of X G c).cl (He.glo_ok X G (c.d.fact 3 (f := .glo "zones_of") rfl))) ((ok__law_whole X G c).cl (He.glo_ok X G (c.d.fact 12 (f := .glo "_law_whole") rfl))) ((ok__law_bits X G c).cl (He.glo_ok X G (c.d.fact 18 (f := .glo "_law_bits") rfl))) ((ok__law_draw X G c).cl (He.glo_ok X G (c.d.fact 11 (f := .glo "_law_draw") rfl))) ((ok__law_refused X G c).cl (He.glo_ok X G (c.d.fact 20 (f := .glo "_law_refused") rfl))) cdv A outer s H E hr⟩
theorem facts (X : K.In h) (G : h.Ns mainGlobals mg) (hfa : mg ("law" : Str) = some (.ref f)) (c : Mp.SaysE fa fn exK K) :
    ∃ fd : FuncData, (∀ (s : Shared) (v : Value), BindsTo s fd ⟨[v], []⟩ [("_law_script", v)]) ∧ ∀ base : Heap, K.In base → base.Ns mainGlobals mg → FnOk P w K mg base (L2.CX P w) 7 f fd ["_law_script"] (spD (tb K) 1 f_law) := by
  obtain ⟨fd, F⟩ := c.d.def_ 33 (d := d_law) rfl
  have e := hfa.symm.trans (He.glo_ok X G (c.d.fact 22 (f := .glo "law") rfl))
  cases e
  have b := FunD.bindsA (ps := ["_law_script"]) F fun _ _ _ _ _ _ us hl => match us, hl with | [_], _ => rfl
  exact ⟨fd, fun s v => b s [v] rfl, fun base _ _ => fn_d (T := tb K) F sc_law fun cdv A outer s H E hr => b_law (txt X G c) ((ok__law_draw X G c).cl (He.glo_ok X G (c.d.fact 11 (f := .glo "_law_draw") rfl))) ((ok__law_names X G c).cl (He.glo_ok X G (c.d.fact 14 (f := .glo "_law_names") rfl))) ((ok__law_tickets X G c).cl (He.glo_ok X G (c.d.fact 17 (f := .glo "_law_tickets") rfl))) ((ok__law_net X G c).cl (He.glo_ok X G (c.d.fact 19 (f := .glo "_law_net") rfl))) ((ok__law_rides_right X G c).cl (He.glo_ok X G (c.d.fact 21 (f := .glo "_law_rides_right") rfl))) ((ok__law_zones X G c).cl (He.glo_ok X G (c.d.fact 16 (f := .glo "_law_zones") rfl))) ((ok_zone_bits X G c).cl (He.glo_ok X G (c.d.fact 1 (f := .glo "zone_bits") rfl))) ((ok__law_whole X G c).cl (He.glo_ok X G (c.d.fact 12 (f := .glo "_law_whole") rfl))) ((ok__law_bits X G c).cl (He.glo_ok X G (c.d.fact 18 (f := .glo "_law_bits") rfl))) ((ok_fits X G c).cl (He.glo_ok X G (c.d.fact 4 (f := .glo "fits") rfl))) ((ok__law_refused X G c).cl (He.glo_ok X G (c.d.fact 20 (f := .glo "_law_refused") rfl))) cdv A outer s H E hr⟩
end
end Rb
/-! ### the end -/
open PySem PySem.W PySem.Calls PyProof.Rows in
theorem PySem.Challenge.cw_roadbook_k17_zones_and_tickets_holds : PySem.Challenge.rw_roadbook_k17_zones_and_tickets.Holds := by
  w_on; o_law
  refine HandSHeadRun.head_any (r := OpenLaw.row PySem.Challenge.rw_roadbook_k17_zones_and_tickets) (q := view (OpenLaw.row PySem.Challenge.rw_roadbook_k17_zones_and_tickets).prog [58]) (H := Rb.hk) (ob := Rb.ob) (M := 8000) (loose := Rb.loose) (d := HandSHeadRun.topDef (OpenLaw.row PySem.Challenge.rw_roadbook_k17_zones_and_tickets).prog 58) (kwd := []) Rb.ob_eq
    (by kernel_rfl) (fun s => by kernel_rfl) Rb.run (by kernel_rfl) (by kernel_rfl) (by kernel_rfl) (by rfl) (by first | assumption | decide +kernel) (by decide +kernel) ⟨rfl, rfl, rfl, rfl, rfl, by decide +kernel⟩ ?hw ?hc
  case hw => w_witness2
  case hc =>
    refine Mp.law_walks (l := PySem.Challenge.rw_roadbook_k17_zones_and_tickets) (k := 7) (x := "_law_script") rfl (by kernel_rfl) ⟨rfl, by decide, by decide⟩ ?F
    intro w mg fa h Y G hmg0
    obtain ⟨K, KX, c⟩ := Y
    have hmg : mg ("law" : PySem.Str) = some (.ref fa) := by
      have e : (HandSHeadRun.topDef (OpenLaw.row PySem.Challenge.rw_roadbook_k17_zones_and_tickets).prog 58).name = ("law" : PySem.Str) := by kernel_rfl
      rw [← e]; exact hmg0
    obtain ⟨fd, hb, hF⟩ := Rb.facts (P := (PySem.Challenge.rw_roadbook_k17_zones_and_tickets).prog) (w := w) KX G hmg c
    exact ⟨K, fd, _, KX, hb, fun H a ns hl hO hS => Mp.law_end (k := 0) hO hS (Rb.pure_law ns hl), hF⟩
