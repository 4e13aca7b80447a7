import PyProof.Rows.All
import Wide.All
import OpenK.AllK
import Wide.FinOn
import HandS.ForMost
import HandS.Exc
import HandS.TryOnly
import HandS.ExcOwn
import HandS.WordsExc
import HandS.IsInst
import HandS.ExcIs
import HandS.CallSlots
import HandS.Defaults
import HandS.StrMore
import HandS.FStr
import HandS.Replace
import HandS.HeadEnd
import HandS.Head0
import HandS.Head1
import HandS.Head2
import HandS.HeadHook1
import HandS.HeadHook2
import HandS.HeadHook3
import HandS.HeadHook4
import HandS.Walk
import HandS.Zip
import HandS.Flow
import HandS.SetFor
import HandS.Conv
import HandS.ReplaceLit
import HandS.List
import HandS.New
import HandS.TupSets
import HandS.SortKw
import KE.DataMinMax
import HandS.Codes
import HandS.ListEq
import HandS.Style
import HandS.Deep
import HandS.Dict
import KE.DataFind
import PySem.Challenge.RW_roadbook_k11_minutes_on_foot
set_option Elab.async false
set_option linter.all false
set_option maxRecDepth 100000
set_option maxHeartbeats 4000000
/-! # MpA -/
namespace Mp
open PySem PySem.Spec L2

/-! ## deep values, cells -/
inductive D where
  | non | bl (b : Bool) | int (i : Int) | str (s : List Nat)
  | tup (xs : List D) | lst (xs : List D) | scr (ns : List Int) | dct (ks vs : List D)
  | obj (c : Nat) (ns : List Nat) (vs : List D)
  | loc (n : Nat) | exc (c : Nat) | cls (c : Nat) | ty (n : String)
instance : Inhabited D := ⟨.non⟩
inductive Cell where
  | dead | lst (xs : List D) | dct (ks vs : List D) | obj (c : Nat) (ns : List Nat) (vs : List D)
abbrev Sto := List Cell
abbrev Env := List (Option D)
def Cell.live : Cell → Bool
  | .dead => false
  | _ => true
/-- codes to a text -/
def S (cs : List Nat) : Str := ⟨cs.toArray⟩
theorem S_len (cs : List Nat) : (S cs).length = cs.length := by simp [S, Str.length]
theorem S_inj {a b : List Nat} (h : S a = S b) : a = b := by
  have e : (S a).cps.toList = (S b).cps.toList := by rw [h]
  simpa [S] using e
theorem S_cat (a b : List Nat) : S a ++ S b = S (a ++ b) := by
  show (⟨a.toArray ++ b.toArray⟩ : Str) = ⟨(a ++ b).toArray⟩
  simp
/-- the tables: the written part, where classes stand, the fields' names -/
structure Tb where
  K : PySem.W.Frag
  ca : Nat → Addr
  fm : Nat → Str

/-- a caught exception that is kept as a value -/
def ExV (cls : Value) (a : Addr) : HO := .ext fun h => ∃ oe : Obj, h.get? a = some oe ∧ Zc cls none oe ∧ ∃ vs, oe.data = .fields vs

def kD : Key → D
  | .inl i => .int i
  | .inr x => .str x.cps.toList
mutual
/-- v stands for the deep value, over the part F of the heap that does not change; ι: where the cells are -/
def Rp (T : Tb) (F : Hp) (ι : List Addr) : D → V → Prop
  | .non, v => v = .non
  | .bl b, v => v = .bl b
  | .int i, v => v = .int i
  | .str s, v => v = .str (S s)
  | .tup xs, v => ∃ a vs, v = .ref a ∧ F a = some (.tup vs) ∧ Rps T F ι xs vs
  | .lst xs, v => ∃ a vs, v = .ref a ∧ F a = some (.lst vs) ∧ Rps T F ι xs vs
  | .scr ns, v => ∃ a, v = .ref a ∧ SqL T.K F a (ns.map V.int)
  | .dct ks xs, v => ∃ a kvs, v = .ref a ∧ Rd F a (.dK kvs) ∧ ks = kvs.map (fun p => kD p.1) ∧ Rps T F ι xs (kvs.map (·.2))
  | .obj c ns xs, v => ∃ a dx fs, v = .ref a ∧ F a = some (.ins (T.ca c) dx fs) ∧ fs.map (·.1) = ns.map T.fm ∧ Rps T F ι xs (fs.map (·.2))
  | .loc n, v => ∃ a, ι[n]? = some a ∧ v = .ref a
  | .exc c, v => ∃ a, v = .ref a ∧ F a = some (ExV (.ref (T.ca c)) a)
  | .cls c, v => v = .ref (T.ca c)
  | .ty n, v => v = .ty n
def Rps (T : Tb) (F : Hp) (ι : List Addr) : List D → List V → Prop
  | [], vs => vs = []
  | x :: xs, vs => ∃ v r, vs = v :: r ∧ Rp T F ι x v ∧ Rps T F ι xs r
end
def Grow (F : Hp) (ι : List Addr) (F' : Hp) (ι' : List Addr) : Prop := (∀ a o, F a = some o → F' a = some o) ∧ ∃ more, ι' = ι ++ more
theorem Grow.refl (F : Hp) (ι : List Addr) : Grow F ι F ι := ⟨fun _ _ h => h, [], by simp⟩
theorem Grow.trans {F F1 F2 : Hp} {ι ι1 ι2 : List Addr} (a : Grow F ι F1 ι1) (b : Grow F1 ι1 F2 ι2) : Grow F ι F2 ι2 := by
  obtain ⟨a1, m, e⟩ := a
  obtain ⟨b1, n, f⟩ := b
  exact ⟨fun x o h => b1 x o (a1 x o h), m ++ n, by rw [f, e, List.append_assoc]⟩
theorem Grow.at {F F' : Hp} {ι ι' : List Addr} (g : Grow F ι F' ι') {n : Nat} {a : Addr} (h : ι[n]? = some a) : ι'[n]? = some a := by
  obtain ⟨_, m, rfl⟩ := g
  rw [List.getElem?_append_left (List.getElem?_eq_some_iff.mp h).1]
  exact h
theorem rd_mono {F F' : Hp} (g : ∀ a o, F a = some o → F' a = some o) {a : Addr} {u : HO} (h : Rd F a u) : Rd F' a u := by
  rcases h with h | ⟨o, h⟩
  · exact .inl (g _ _ h)
  · exact .inr ⟨o, g _ _ h⟩
theorem sql_mono {K : PySem.W.Frag} {F F' : Hp} (g : ∀ a o, F a = some o → F' a = some o) {a : Addr} {xs : List V} (h : SqL K F a xs) : SqL K F' a xs := by
  rcases h with h | h
  · exact .inl (rd_mono g h)
  · exact .inr h
mutual
theorem Rp.mono {T : Tb} {F F' : Hp} {ι ι' : List Addr} (g : Grow F ι F' ι') : ∀ {d : D} {v : V}, Rp T F ι d v → Rp T F' ι' d v
  | .non, _, h => by unfold Rp at h ⊢; exact h
  | .bl _, _, h => by unfold Rp at h ⊢; exact h
  | .int _, _, h => by unfold Rp at h ⊢; exact h
  | .str _, _, h => by unfold Rp at h ⊢; exact h
  | .tup xs, v, h => by
    unfold Rp at h ⊢
    obtain ⟨a, vs, e, q, r⟩ := h
    exact ⟨a, vs, e, g.1 _ _ q, Rps.mono g r⟩
  | .lst xs, v, h => by
    unfold Rp at h ⊢
    obtain ⟨a, vs, e, q, r⟩ := h
    exact ⟨a, vs, e, g.1 _ _ q, Rps.mono g r⟩
  | .scr ns, v, h => by
    unfold Rp at h ⊢
    obtain ⟨a, e, q⟩ := h
    exact ⟨a, e, sql_mono g.1 q⟩
  | .dct ks xs, v, h => by
    unfold Rp at h ⊢
    obtain ⟨a, kvs, e, q, k, r⟩ := h
    exact ⟨a, kvs, e, rd_mono g.1 q, k, Rps.mono g r⟩
  | .obj c ns xs, v, h => by
    unfold Rp at h ⊢
    obtain ⟨a, dx, fs, e, q, k, r⟩ := h
    exact ⟨a, dx, fs, e, g.1 _ _ q, k, Rps.mono g r⟩
  | .loc n, v, h => by
    unfold Rp at h ⊢
    obtain ⟨a, q, e⟩ := h
    exact ⟨a, g.at q, e⟩
  | .exc c, v, h => by
    unfold Rp at h ⊢
    obtain ⟨a, e, q⟩ := h
    exact ⟨a, e, g.1 _ _ q⟩
  | .cls _, _, h => by unfold Rp at h ⊢; exact h
  | .ty _, _, h => by unfold Rp at h ⊢; exact h
theorem Rps.mono {T : Tb} {F F' : Hp} {ι ι' : List Addr} (g : Grow F ι F' ι') : ∀ {ds : List D} {vs : List V}, Rps T F ι ds vs → Rps T F' ι' ds vs
  | [], _, h => by unfold Rps at h ⊢; exact h
  | x :: xs, vs, h => by
    unfold Rps at h ⊢
    obtain ⟨v, r, e, p, q⟩ := h
    exact ⟨v, r, e, Rp.mono g p, Rps.mono g q⟩
end
theorem Rps.len {T : Tb} {F : Hp} {ι : List Addr} : ∀ {ds : List D} {vs : List V}, Rps T F ι ds vs → ds.length = vs.length
  | [], _, h => by unfold Rps at h; subst h; rfl
  | x :: xs, vs, h => by
    unfold Rps at h
    obtain ⟨v, r, rfl, _, q⟩ := h
    simp [q.len]
theorem Rps.get {T : Tb} {F : Hp} {ι : List Addr} : ∀ {ds : List D} {vs : List V} {i : Nat} {d : D}, Rps T F ι ds vs → ds[i]? = some d → ∃ v, vs[i]? = some v ∧ Rp T F ι d v
  | [], _, _, _, _, e => by simp at e
  | x :: xs, vs, 0, d, h, e => by
    unfold Rps at h
    obtain ⟨v, r, rfl, p, _⟩ := h
    simp at e
    subst e
    exact ⟨v, rfl, p⟩
  | x :: xs, vs, i + 1, d, h, e => by
    unfold Rps at h
    obtain ⟨v, r, rfl, _, q⟩ := h
    obtain ⟨u, e1, e2⟩ := q.get (i := i) (by simpa using e)
    exact ⟨u, by simpa using e1, e2⟩
theorem Rps.nil {T : Tb} {F : Hp} {ι : List Addr} : Rps T F ι [] [] := by unfold Rps; rfl
theorem Rps.cons {T : Tb} {F : Hp} {ι : List Addr} {d : D} {v : V} {ds : List D} {vs : List V} (h : Rp T F ι d v) (r : Rps T F ι ds vs) : Rps T F ι (d :: ds) (v :: vs) := by
  unfold Rps
  exact ⟨v, vs, rfl, h, r⟩
theorem Rps.app {T : Tb} {F : Hp} {ι : List Addr} : ∀ {ds es : List D} {vs us : List V}, Rps T F ι ds vs → Rps T F ι es us → Rps T F ι (ds ++ es) (vs ++ us)
  | [], _, _, _, h, k => by unfold Rps at h; subst h; exact k
  | x :: xs, es, vs, us, h, k => by
    unfold Rps at h
    obtain ⟨v, r, rfl, p, q⟩ := h
    exact .cons p (q.app k)
theorem Rps.take {T : Tb} {F : Hp} {ι : List Addr} : ∀ {ds : List D} {vs : List V} (n : Nat), Rps T F ι ds vs → Rps T F ι (ds.take n) (vs.take n)
  | _, _, 0, _ => by simpa using Rps.nil
  | [], _, n + 1, h => by unfold Rps at h; subst h; simpa using Rps.nil
  | x :: xs, vs, n + 1, h => by
    unfold Rps at h
    obtain ⟨v, r, rfl, p, q⟩ := h
    simpa using Rps.cons p (q.take n)
theorem Rps.drop {T : Tb} {F : Hp} {ι : List Addr} : ∀ {ds : List D} {vs : List V} (n : Nat), Rps T F ι ds vs → Rps T F ι (ds.drop n) (vs.drop n)
  | _, _, 0, h => by simpa using h
  | [], _, n + 1, h => by unfold Rps at h; subst h; simpa using Rps.nil
  | x :: xs, vs, n + 1, h => by
    unfold Rps at h
    obtain ⟨v, r, rfl, p, q⟩ := h
    simpa using q.drop n
theorem Rps.set {T : Tb} {F : Hp} {ι : List Addr} {d : D} {v : V} (h : Rp T F ι d v) : ∀ {ds : List D} {vs : List V} (n : Nat), Rps T F ι ds vs → Rps T F ι (ds.set n d) (vs.set n v)
  | [], _, n, k => by unfold Rps at k; subst k; simpa using Rps.nil
  | x :: xs, vs, 0, k => by
    unfold Rps at k
    obtain ⟨v, r, rfl, p, q⟩ := k
    exact .cons h q
  | x :: xs, vs, n + 1, k => by
    unfold Rps at k
    obtain ⟨v, r, rfl, p, q⟩ := k
    exact .cons p (q.set h n)

/-! ## the store and the heap -/
def CellAt (T : Tb) (ι : List Addr) (F H : Hp) (a : Addr) : Cell → Prop
  | .dead => True
  | .lst xs => F a = none ∧ ∃ vs, H a = some (.lst vs) ∧ Rps T F ι xs vs
  | .dct ks xs => F a = none ∧ ∃ kvs, H a = some (.dK kvs) ∧ ks = kvs.map (fun p => kD p.1) ∧ Rps T F ι xs (kvs.map (·.2))
  | .obj c ns xs => F a = none ∧ ∃ dx fs, H a = some (.ins (T.ca c) dx fs) ∧ fs.map (·.1) = ns.map T.fm ∧ Rps T F ι xs (fs.map (·.2))
structure RelH (T : Tb) (P : Hp) (ι : List Addr) (F : Hp) (s : Sto) (H : Hp) : Prop where
  sub : ∀ a o, F a = some o → H a = some o
  pro : ∀ a o, P a = some o → H a = some o
  dis : ∀ a o, P a = some o → F a = none
  len : ι.length = s.length
  cell : ∀ (n : Nat) c a, s[n]? = some c → ι[n]? = some a → CellAt T ι F H a c
  npr : ∀ (n : Nat) c a, s[n]? = some c → c.live = true → ι[n]? = some a → P a = none
  nod : ∀ (n m : Nat) c c' a, s[n]? = some c → s[m]? = some c' → c.live = true → c'.live = true → ι[n]? = some a → ι[m]? = some a → n = m
structure REnv (T : Tb) (F : Hp) (ι : List Addr) (δ : Env) (σ : L2.St) : Prop where
  len : δ.length = σ.length
  at_ : ∀ (i : Nat) d, δ[i]? = some (some d) → ∃ v, σ[i]? = some (some v) ∧ Rp T F ι d v
theorem REnv.mono {T : Tb} {F F' : Hp} {ι ι' : List Addr} {δ : Env} {σ : L2.St} (e : REnv T F ι δ σ) (g : Grow F ι F' ι') : REnv T F' ι' δ σ :=
  ⟨e.len, fun i d h => let ⟨v, e1, e2⟩ := e.at_ i d h; ⟨v, e1, e2.mono g⟩⟩
theorem REnv.set {T : Tb} {F : Hp} {ι : List Addr} {δ : Env} {σ : L2.St} {d : D} {v : V} (e : REnv T F ι δ σ) (h : Rp T F ι d v) (i : Nat) : REnv T F ι (δ.set i (some d)) (σ.set i (some v)) := by
  refine ⟨by simp [e.len], fun j d' hj => ?_⟩
  by_cases c : i = j
  · subst c
    have hl : i < δ.length := by
      have := (List.getElem?_eq_some_iff.mp hj).1
      simpa using this
    rw [List.getElem?_set_self hl] at hj
    cases hj
    exact ⟨v, by rw [List.getElem?_set_self (by rw [← e.len]; exact hl)], h⟩
  · rw [List.getElem?_set_ne c] at hj
    obtain ⟨u, e1, e2⟩ := e.at_ j d' hj
    exact ⟨u, by rw [List.getElem?_set_ne c]; exact e1, e2⟩
theorem REnv.unset {T : Tb} {F : Hp} {ι : List Addr} {δ : Env} {σ : L2.St} {o : Option V} (e : REnv T F ι δ σ) (i : Nat) : REnv T F ι (δ.set i none) (σ.set i o) := by
  refine ⟨by simp [e.len], fun j d' hj => ?_⟩
  by_cases c : i = j
  · subst c
    have hl : i < δ.length := by
      have := (List.getElem?_eq_some_iff.mp hj).1
      simpa using this
    rw [List.getElem?_set_self hl] at hj
    cases hj
  · rw [List.getElem?_set_ne c] at hj
    obtain ⟨u, e1, e2⟩ := e.at_ j d' hj
    exact ⟨u, by rw [List.getElem?_set_ne c]; exact e1, e2⟩

section
variable {T : Tb} {P : Hp} {ι : List Addr} {F : Hp} {s : Sto} {H : Hp}
theorem CellAt.grow {ι' : List Addr} {F' H' : Hp} {a : Addr} {c : Cell} (h : CellAt T ι F H a c) (g : Grow F ι F' ι') (hF : c.live = true → F' a = F a) (hH : c.live = true → H' a = H a) : CellAt T ι' F' H' a c := by
  cases c with
  | dead => trivial
  | lst xs =>
    obtain ⟨h1, vs, h2, h3⟩ := h
    exact ⟨by rw [hF rfl]; exact h1, vs, by rw [hH rfl]; exact h2, h3.mono g⟩
  | dct ks xs =>
    obtain ⟨h1, vs, h2, h3, h4⟩ := h
    exact ⟨by rw [hF rfl]; exact h1, vs, by rw [hH rfl]; exact h2, h3, h4.mono g⟩
  | obj c ns xs =>
    obtain ⟨h1, dx, vs, h2, h3, h4⟩ := h
    exact ⟨by rw [hF rfl]; exact h1, dx, vs, by rw [hH rfl]; exact h2, h3, h4.mono g⟩
theorem CellAt.has {a : Addr} {c : Cell} (h : CellAt T ι F H a c) (hl : c.live = true) : ∃ o, H a = some o := by
  cases c with
  | dead => cases hl
  | lst xs => obtain ⟨_, vs, h2, _⟩ := h; exact ⟨_, h2⟩
  | dct ks xs => obtain ⟨_, vs, h2, _⟩ := h; exact ⟨_, h2⟩
  | obj c ns xs => obtain ⟨_, dx, vs, h2, _⟩ := h; exact ⟨_, h2⟩
theorem RelH.freeF (R : RelH T P ι F s H) {p : Addr} (h : H p = none) : F p = none := by
  cases e : F p with
  | none => rfl
  | some o => rw [R.sub _ _ e] at h; cases h
theorem RelH.freeP (R : RelH T P ι F s H) {p : Addr} (h : H p = none) : P p = none := by
  cases e : P p with
  | none => rfl
  | some o => rw [R.pro _ _ e] at h; cases h
theorem grow_new (hF : F p = none) (o : HO) : Grow F ι (upd F p o) ι := ⟨fun a u h => by rw [upd_ne (ne_of_none h hF)]; exact h, [], by simp⟩
/-- a new object that stays as it is -/
theorem RelH.new (R : RelH T P ι F s H) {p : Addr} (hp : H p = none) (o : HO) : RelH T P ι (upd F p o) s (upd H p o) where
  sub := fun a u h => by
    by_cases c : a = p
    · subst c; rw [upd_same] at h ⊢; exact h
    · rw [upd_ne c] at h ⊢; exact R.sub a u h
  pro := fun a u h => by
    have q := R.pro a u h
    rw [upd_ne (ne_of_none q hp)]; exact q
  dis := fun a u h => by
    have q := R.pro a u h
    rw [upd_ne (ne_of_none q hp)]; exact R.dis a u h
  len := R.len
  cell := fun n c a h1 h2 => by
    have q := R.cell n c a h1 h2
    refine q.grow (grow_new (R.freeF hp) o) (fun l => ?_) (fun l => ?_)
    all_goals
      obtain ⟨u, hu⟩ := q.has l
      exact upd_ne (ne_of_none hu hp)
  npr := R.npr
  nod := R.nod
/-- a new object that is ours, under protection -/
theorem RelH.newP (R : RelH T P ι F s H) {p : Addr} (hp : H p = none) (o : HO) : RelH T (upd P p o) ι F s (upd H p o) where
  sub := fun a u h => by
    have q := R.sub a u h
    rw [upd_ne (ne_of_none q hp)]; exact q
  pro := fun a u h => by
    by_cases c : a = p
    · subst c; rw [upd_same] at h ⊢; exact h
    · rw [upd_ne c] at h ⊢; exact R.pro a u h
  dis := fun a u h => by
    by_cases c : a = p
    · subst c; exact R.freeF hp
    · rw [upd_ne c] at h; exact R.dis a u h
  len := R.len
  cell := fun n c a h1 h2 => by
    have q := R.cell n c a h1 h2
    refine q.grow (Grow.refl _ _) (fun _ => rfl) (fun l => ?_)
    obtain ⟨u, hu⟩ := q.has l
    exact upd_ne (ne_of_none hu hp)
  npr := fun n c a h1 l h2 => by
    obtain ⟨u, hu⟩ := (R.cell n c a h1 h2).has l
    rw [upd_ne (ne_of_none hu hp)]; exact R.npr n c a h1 l h2
  nod := R.nod
theorem RelH.setP (R : RelH T P ι F s H) {p : Addr} {u : HO} (hp : P p = some u) (o : HO) : RelH T (upd P p o) ι F s (upd H p o) where
  sub := fun a u h => by
    have n : a ≠ p := fun z => by subst z; rw [R.dis _ _ hp] at h; cases h
    rw [upd_ne n]; exact R.sub a u h
  pro := fun a u h => by
    by_cases c : a = p
    · subst c; rw [upd_same] at h ⊢; exact h
    · rw [upd_ne c] at h ⊢; exact R.pro a u h
  dis := fun a v h => by
    by_cases c : a = p
    · subst c; exact R.dis _ _ hp
    · rw [upd_ne c] at h; exact R.dis a v h
  len := R.len
  cell := fun n c a h1 h2 => by
    have q := R.cell n c a h1 h2
    refine q.grow (Grow.refl _ _) (fun _ => rfl) (fun l => ?_)
    have hn := R.npr n c a h1 l h2
    exact upd_ne (fun z => by subst z; rw [hp] at hn; cases hn)
  npr := fun n c a h1 l h2 => by
    have hn := R.npr n c a h1 l h2
    rw [upd_ne (fun z => by subst z; rw [hp] at hn; cases hn)]; exact hn
  nod := R.nod
/-- what was under protection stays as it is from now on -/
theorem RelH.thaw {o : HO} {p : Addr} (R : RelH T (upd P p o) ι F s H) (hp : P p = none) : RelH T P ι (upd F p o) s H where
  sub := fun a u h => by
    by_cases c : a = p
    · subst c; rw [upd_same] at h; exact R.pro a u (by rw [upd_same]; exact h)
    · rw [upd_ne c] at h; exact R.sub a u h
  pro := fun a u h => R.pro a u (by rw [upd_ne (ne_of_none h hp)]; exact h)
  dis := fun a u h => by
    rw [upd_ne (ne_of_none h hp)]
    exact R.dis a u (by rw [upd_ne (ne_of_none h hp)]; exact h)
  len := R.len
  cell := fun n c a h1 h2 => by
    have q := R.cell n c a h1 h2
    have hF : F p = none := R.dis p o upd_same
    refine q.grow (grow_new hF o) (fun l => ?_) (fun _ => rfl)
    have hn := R.npr n c a h1 l h2
    exact upd_ne (fun z => by subst z; rw [upd_same] at hn; cases hn)
  npr := fun n c a h1 l h2 => by
    have hn := R.npr n c a h1 l h2
    have ne : a ≠ p := fun z => by subst z; rw [upd_same] at hn; cases hn
    rw [upd_ne ne] at hn; exact hn
  nod := R.nod
end
end Mp
/-! # MpB -/
namespace Mp
open PySem PySem.Spec L2

/-! ## results -/
inductive Res (α : Type) where
  | ok (a : α) (s : Sto) | exc (c : Nat) (s : Sto) | stuck
def Res.bind {α β : Type} : Res α → (α → Sto → Res β) → Res β
  | .ok a s, k => k a s
  | .exc c s, _ => .exc c s
  | .stuck, _ => .stuck
abbrev DE := Env → Sto → Res D
abbrev DT := Env → Sto → Res Bool
abbrev DA := Env → Sto → Res (List D)
def Post {α β : Type} (T : Tb) (P : Hp) (Rl : Hp → List Addr → α → β → Prop) (Q : β → Hp → Prop) (E : Nat → Hp → Prop) (F : Hp) (ι : List Addr) : Res α → Prop
  | .ok d s' => ∀ v H' ι' F', Grow F ι F' ι' → RelH T P ι' F' s' H' → Rl F' ι' d v → Q v H'
  | .exc c s' => ∀ H' ι' F', Grow F ι F' ι' → RelH T P ι' F' s' H' → E c H'
  | .stuck => False
abbrev eqR {α : Type} : Hp → List Addr → α → α → Prop := fun _ _ a b => a = b
def DenG {α β : Type} (T : Tb) (Rl : Hp → List Addr → α → β → Prop) (W : WX) (t : L2.St → Hp → (β → Hp → Prop) → Prop) (f : Env → Sto → Res α) : Prop :=
  ∀ σ H P ι F δ s Q, RelH T P ι F s H → REnv T F ι δ σ → Post T P Rl Q (fun c H' => W (.ref (T.ca c)) none σ H') F ι (f δ s) → t σ H Q
theorem Post.mono {α β : Type} {T : Tb} {P : Hp} {Rl : Hp → List Addr → α → β → Prop} {Q : β → Hp → Prop} {E : Nat → Hp → Prop} {F F1 : Hp} {ι ι1 : List Addr} {r : Res α} (g : Grow F ι F1 ι1) (h : Post T P Rl Q E F ι r) : Post T P Rl Q E F1 ι1 r := by
  cases r with
  | ok d s => exact fun v H' ι' F' g' => h v H' ι' F' (g.trans g')
  | exc c s => exact fun H' ι' F' g' => h H' ι' F' (g.trans g')
  | stuck => exact h
/-- the value is at hand -/
theorem Post.here {α β : Type} {T : Tb} {P : Hp} {Rl : Hp → List Addr → α → β → Prop} {Q : β → Hp → Prop} {E : Nat → Hp → Prop} {F : Hp} {ι : List Addr} {d : α} {s : Sto} {H : Hp} {v : β} (h : Post T P Rl Q E F ι (.ok d s)) (R : RelH T P ι F s H) (r : Rl F ι d v) : Q v H :=
  h v H ι F (Grow.refl _ _) R r
theorem Post.new {α : Type} {T : Tb} {P : Hp} {Rl : Hp → List Addr → α → V → Prop} {Q : V → Hp → Prop} {E : Nat → Hp → Prop} {F : Hp} {ι : List Addr} {d : α} {s : Sto} {H : Hp} {p : Addr} {o : HO} (h : Post T P Rl Q E F ι (.ok d s)) (R : RelH T P ι F s H) (hp : H p = none) (r : Grow F ι (upd F p o) ι → Rl (upd F p o) ι d (.ref p)) : Q (.ref p) (upd H p o) :=
  h _ _ _ _ (grow_new (R.freeF hp) o) (R.new hp o) (r (grow_new (R.freeF hp) o))
/-- one after another -/
theorem den_then {α β α2 β2 : Type} {T : Tb} {R1 : Hp → List Addr → α → β → Prop} {R2 : Hp → List Addr → α2 → β2 → Prop} {W : WX} {t : L2.St → Hp → (β → Hp → Prop) → Prop} {f : Env → Sto → Res α} {k : α → Sto → Res α2}
    {σ : L2.St} {H P : Hp} {ι : List Addr} {F : Hp} {δ : Env} {s : Sto} {Q : β2 → Hp → Prop} {G : β → Hp → Prop} (h1 : DenG T R1 W t f) (R : RelH T P ι F s H) (E : REnv T F ι δ σ)
    (post : Post T P R2 Q (fun c H' => W (.ref (T.ca c)) none σ H') F ι ((f δ s).bind k))
    (hk : ∀ x y H1 ι1 F1 s1, Grow F ι F1 ι1 → RelH T P ι1 F1 s1 H1 → REnv T F1 ι1 δ σ → R1 F1 ι1 x y → Post T P R2 Q (fun c H' => W (.ref (T.ca c)) none σ H') F1 ι1 (k x s1) → G y H1) : t σ H G := by
  refine h1 σ H P ι F δ s G R E ?_
  cases e : f δ s with
  | ok x s1 =>
    rw [e] at post
    exact fun v H' ι' F' g R' r => hk x v H' ι' F' s1 g R' (E.mono g) r (post.mono g)
  | exc c s1 =>
    rw [e] at post
    exact post
  | stuck =>
    rw [e] at post
    exact post

/-! ## judgements: a derivation in HandS and what it evaluates to -/
def PDe (T : Tb) (X : Cx) (e : Expr) (f : DE) : Prop := ∀ pn xe W, Takes (X.tr pn xe) W → ∃ t, PE (X.tr pn xe) e t ∧ DenG T (Rp T) W t f
def PDt (T : Tb) (X : Cx) (e : Expr) (f : DT) : Prop := ∀ pn xe W, Takes (X.tr pn xe) W → ∃ t, PT (X.tr pn xe) e t ∧ DenG T eqR W t f
abbrev RpsN (T : Tb) (n : Nat) : Hp → List Addr → List D → List V → Prop := fun F ι ds vs => Rps T F ι ds vs ∧ vs.length = n
def PDa (T : Tb) (X : Cx) (es : List Expr) (f : DA) : Prop := ∀ pn xe W, Takes (X.tr pn xe) W → ∃ t, PA (X.tr pn xe) es t ∧ DenG T (RpsN T es.length) W t f

/-! ## names and constants -/
def dVar (i : Nat) : DE := fun δ s => match δ[i]? with
  | some (some d) => .ok d s
  | _ => .stuck
def dC (d : D) : DE := fun _ s => .ok d s
section
variable {T : Tb} {X : Cx}
theorem d_var {x : Str} {pos : Pos} (i : Nat) (hN : X.N[i]? = some x := by rfl) (hv : Vis X.env.scope x := by first | exact Or.inl rfl | exact Or.inr (Or.inl rfl) | exact Or.inr (Or.inr rfl)) (hd : (x == ("__debug__" : Str)) = false := by decide)
    (hcd : (x == ("__classdict__" : Str)) = false := by decide) : PDe T X (.Name x pos) (dVar i) := by
  intro pn xe W tk
  refine ⟨_, pe_var (i := i) (X := X.tr pn xe) hN hv hd hcd, fun σ H P ι F δ s Q R E post => ?_⟩
  unfold dVar at post
  cases e : δ[i]? with
  | none => rw [e] at post; exact post.elim
  | some o =>
    cases o with
    | none => rw [e] at post; exact post.elim
    | some d =>
      rw [e] at post
      obtain ⟨v, e1, e2⟩ := E.at_ i d e
      exact ⟨v, e1, post.here R e2⟩
theorem den_c {W : WX} {d : D} {v : V} (h : ∀ F ι, Rp T F ι d v) : DenG T (Rp T) W (tC v) (dC d) := fun _ _ _ ι F _ _ _ R _ post => post.here R (h F ι)
theorem d_int {i j pos} : PDe T X (.Constant (.int i) j pos) (dC (.int i)) := fun pn xe W _ => ⟨_, pe_int, den_c fun _ _ => by unfold Rp; rfl⟩
theorem d_bl {b j pos} : PDe T X (.Constant (.bool b) j pos) (dC (.bl b)) := fun pn xe W _ => ⟨_, pe_bl, den_c fun _ _ => by unfold Rp; rfl⟩
theorem d_non {j pos} : PDe T X (.Constant .none j pos) (dC .non) := fun pn xe W _ => ⟨_, pe_non, den_c fun _ _ => by unfold Rp; rfl⟩
theorem d_str {x : Str} {j pos} (cs : List Nat) (h : x = S cs) : PDe T X (.Constant (.str x) j pos) (dC (.str cs)) := fun pn xe W _ => ⟨_, pe_str, den_c fun _ _ => by unfold Rp; rw [h]⟩
/-- a module's constant -/
theorem d_glob {x : Str} {pos : Pos} {d : D} {v : V} (h : ∀ F ι, Rp T F ι d v) (hm : ∃ u, X.mg x = some u ∧ RelV v u) (hg : Gl X x := by rfl) (hd : (x == ("__debug__" : Str)) = false := by decide) : PDe T X (.Name x pos) (dC d) := fun pn xe W _ => by
  obtain ⟨u, h1, h2⟩ := hm
  exact ⟨_, pe_glob (X := X.tr pn xe) hg h1 h2 hd, den_c h⟩
/-- a built-in class as a value -/
theorem d_ty {x : Str} {pos : Pos} (n : String) (hm : X.mg x = none) (hv : bootBuiltins x = some (.type n)) (hg : Gl X x := by rfl) (hn : x ≠ "__name__" := by decide) (hd : (x == ("__debug__" : Str)) = false := by decide) : PDe T X (.Name x pos) (dC (.ty n)) := fun pn xe W _ =>
  ⟨_, pe_bltn (X := X.tr pn xe) (v := .ty n) hg hm hv rfl hn hd, den_c fun _ _ => by unfold Rp; rfl⟩
/-- a class of the text as a value -/
theorem d_cls {x : Str} {pos : Pos} (c : Nat) (hm : X.mg x = some (.ref (T.ca c))) (hg : Gl X x := by rfl) (hd : (x == ("__debug__" : Str)) = false := by decide) : PDe T X (.Name x pos) (dC (.cls c)) := fun pn xe W _ =>
  ⟨_, pe_glob (X := X.tr pn xe) (v := .ref (T.ca c)) hg hm rfl hd, den_c fun _ _ => by unfold Rp; rfl⟩

/-! ## arguments -/
def aNil : DA := fun _ s => .ok [] s
def aCons (f : DE) (g : DA) : DA := fun δ s => (f δ s).bind fun x s1 => (g δ s1).bind fun xs s2 => .ok (x :: xs) s2
theorem a_nil : PDa T X [] aNil := fun pn xe W _ => ⟨_, pa_nil, fun _ _ _ _ _ _ _ _ R _ post => post.here R ⟨.nil, rfl⟩⟩
theorem a_cons {e : Expr} {es : List Expr} {f : DE} {g : DA} (he : PDe T X e f) (hr : PDa T X es g) (hs : starEach (e :: es) X.env = (false, eval e X.env) :: starEach es X.env := by rfl) : PDa T X (e :: es) (aCons f g) := fun pn xe W tk => by
  obtain ⟨t1, p1, d1⟩ := he pn xe W tk
  obtain ⟨t2, p2, d2⟩ := hr pn xe W tk
  refine ⟨_, pa_cons (X := X.tr pn xe) p1 p2 hs, fun σ H P ι F δ s Q R E post => ?_⟩
  show t1 σ H _
  refine den_then d1 R E post fun x y H1 ι1 F1 s1 g1 R1 E1 r1 post1 => ?_
  refine den_then d2 R1 E1 post1 fun xs ys H2 ι2 F2 s2 g2 R2 E2 r2 post2 => ?_
  exact post2.here R2 ⟨.cons (r1.mono g2) r2.1, congrArg Nat.succ r2.2⟩

/-! ## operators -/
abbrev DOp := D → D → Sto → Res D
def dOp (op : DOp) (fa fb : DE) : DE := fun δ s => (fa δ s).bind fun x s1 => (fb δ s1).bind fun y s2 => op x y s2
/-- what an operator's reading asks follows from the deep one -/
def DenOp (T : Tb) (r : R2) (op : DOp) : Prop := ∀ x y dx dy H P ι F s Q E, RelH T P ι F s H → Rp T F ι dx x → Rp T F ι dy y → Post T P (Rp T) Q E F ι (op dx dy s) → r x y H Q
theorem den_op {W : WX} {r : R2} {op : DOp} {ta tb : TE} {fa fb : DE} (ho : DenOp T r op) (ha : DenG T (Rp T) W ta fa) (hb : DenG T (Rp T) W tb fb) : DenG T (Rp T) W (tOp r ta tb) (dOp op fa fb) := fun σ H P ι F δ s Q R E post => by
  show ta σ H _
  refine den_then ha R E post fun x y H1 ι1 F1 s1 g1 R1 E1 r1 post1 => ?_
  refine den_then hb R1 E1 post1 fun x2 y2 H2 ι2 F2 s2 g2 R2 E2 r2 post2 => ?_
  exact ho _ _ _ _ _ _ _ _ _ _ _ R2 (r1.mono g2) r2 post2
theorem d_op {a b : Expr} {pos : Pos} {op : Operator} {r : R2} {o : DOp} {fa fb : DE} (hr : ∀ pn xe, OpR (X.tr pn xe) (binaryOp op) r) (ho : DenOp T r o) (ha : PDe T X a fa) (hb : PDe T X b fb) : PDe T X (.BinOp a op b pos) (dOp o fa fb) := fun pn xe W tk => by
  obtain ⟨t1, p1, d1⟩ := ha pn xe W tk
  obtain ⟨t2, p2, d2⟩ := hb pn xe W tk
  exact ⟨_, pe_op (hr pn xe) p1 p2, den_op ho d1 d2⟩
theorem d_cmp {a b : Expr} {pos : Pos} {op : CmpOp} {r : R2} {o : DOp} {fa fb : DE} (hr : ∀ pn xe, OpR (X.tr pn xe) (compareOp op) r) (ho : DenOp T r o) (ha : PDe T X a fa) (hb : PDe T X b fb) (hm : behindInMarks op b = false) : PDe T X (.Compare a [op] [b] pos) (dOp o fa fb) := fun pn xe W tk => by
  obtain ⟨t1, p1, d1⟩ := ha pn xe W tk
  obtain ⟨t2, p2, d2⟩ := hb pn xe W tk
  exact ⟨_, pe_cmpR (hr pn xe) p1 p2 hm, den_op ho d1 d2⟩
/-- a value that is True or False, as a test -/
def tst (f : DE) : DT := fun δ s => (f δ s).bind fun x s1 => match x with
  | .bl b => .ok b s1
  | _ => .stuck
theorem den_tst {W : WX} {t : TE} {f : DE} (h : DenG T (Rp T) W t f) : DenG T eqR W (fun σ H Q => t σ H fun x H' => ∃ k, x = .bl k ∧ Q k H') (tst f) := fun σ H P ι F δ s Q R E post => by
  refine den_then h R E post fun x y H1 ι1 F1 s1 g1 R1 E1 r1 post1 => ?_
  cases x with
  | bl b =>
    unfold Rp at r1
    exact ⟨b, r1, post1.here R1 rfl⟩
  | _ => exact post1.elim
theorem t_cmp {a b : Expr} {pos : Pos} {op : CmpOp} {r : R2} {o : DOp} {fa fb : DE} (hr : ∀ pn xe, OpR (X.tr pn xe) (compareOp op) r) (ho : DenOp T r o) (ha : PDe T X a fa) (hb : PDe T X b fb) (hm : behindInMarks op b = false) : PDt T X (.Compare a [op] [b] pos) (tst (dOp o fa fb)) := fun pn xe W tk => by
  obtain ⟨t1, p1, d1⟩ := ha pn xe W tk
  obtain ⟨t2, p2, d2⟩ := hb pn xe W tk
  exact ⟨_, pt_cmpR (hr pn xe) p1 p2 hm, den_tst (den_op ho d1 d2)⟩
theorem t_val {e : Expr} {f : DE} (h : PDe T X e f) (he : ∀ whole, isTrue e X.env whole = (do let v ← whole; standAt e.pos; holding [v] (truthy v)) := by intro _; rfl) : PDt T X e (tst f) := fun pn xe W tk => by
  obtain ⟨t1, p1, d1⟩ := h pn xe W tk
  exact ⟨_, pt_val (X := X.tr pn xe) p1 he, den_tst d1⟩
/-- a < b < c -/
def dChain (op op' : DOp) (fa fb fc : DE) : DE := fun δ s => (fa δ s).bind fun x s1 => (fb δ s1).bind fun y s2 => (op x y s2).bind fun z s3 => match z with
  | .bl true => (fc δ s3).bind fun w s4 => op' y w s4
  | .bl false => .ok (.bl false) s3
  | _ => .stuck
theorem den_op1 {W : WX} {r : R2} {op : DOp} (ho : DenOp T r op) {x y : V} {dx dy : D} {H P : Hp} {ι : List Addr} {F : Hp} {δ : Env} {s : Sto} {σ : L2.St} {Q : VK} {G : VK} {k : D → Sto → Res D} (R : RelH T P ι F s H) (E : REnv T F ι δ σ) (rx : Rp T F ι dx x) (ry : Rp T F ι dy y)
    (post : Post T P (Rp T) Q (fun c H' => W (.ref (T.ca c)) none σ H') F ι ((op dx dy s).bind k))
    (hk : ∀ x y H1 ι1 F1 s1, Grow F ι F1 ι1 → RelH T P ι1 F1 s1 H1 → REnv T F1 ι1 δ σ → Rp T F1 ι1 x y → Post T P (Rp T) Q (fun c H' => W (.ref (T.ca c)) none σ H') F1 ι1 (k x s1) → G y H1) : r x y H G :=
  den_then (T := T) (W := W) (t := fun σ' H' Q' => ∀ (P' : Hp) ι' F' s', RelH T P' ι' F' s' H' → Rp T F' ι' dx x → Rp T F' ι' dy y → Post T P' (Rp T) Q' (fun c H' => W (.ref (T.ca c)) none σ H') F' ι' (op dx dy s') → r x y H' Q') (f := fun _ s' => op dx dy s')
    (fun σ' H' P' ι' F' δ' s' Q' R' E' post' P'' ι'' F'' s'' R'' a b c => ho _ _ _ _ _ _ _ _ _ _ _ R'' a b c) R E post hk P ι F s R rx ry (by
      cases e : op dx dy s with
      | ok a b => rw [e] at post; exact fun v H' ι' F' g R' r => hk a v H' ι' F' b g R' (E.mono g) r (post.mono g)
      | exc c b => rw [e] at post; exact post
      | stuck => rw [e] at post; exact post)
theorem den_chain {W : WX} {r r' : R2} {o o' : DOp} {ta tb tc : TE} {fa fb fc : DE} (ho : DenOp T r o) (ho' : DenOp T r' o') (d1 : DenG T (Rp T) W ta fa) (d2 : DenG T (Rp T) W tb fb) (d3 : DenG T (Rp T) W tc fc) : DenG T (Rp T) W (tChain r r' ta tb tc) (dChain o o' fa fb fc) := fun σ H P ι F δ s Q R E post => by
  show ta σ H _
  refine den_then d1 R E post fun x y H1 ι1 F1 s1 g1 R1 E1 r1 post1 => ?_
  refine den_then d2 R1 E1 post1 fun x2 y2 H2 ι2 F2 s2 g2 R2 E2 r2 post2 => ?_
  refine den_op1 ho R2 E2 (r1.mono g2) r2 post2 fun z w H3 ι3 F3 s3 g3 R3 E3 r3 post3 => ?_
  cases z with
  | bl b =>
    unfold Rp at r3
    refine ⟨b, r3, ?_⟩
    cases b with
    | true =>
      rw [if_pos rfl]
      refine den_then d3 R3 E3 post3 fun x4 y4 H4 ι4 F4 s4 g4 R4 E4 r4 post4 => ?_
      exact ho' _ _ _ _ _ _ _ _ _ _ _ R4 ((r2.mono g3).mono g4) r4 post4
    | false =>
      rw [if_neg Bool.false_ne_true]
      exact post3.here R3 (by unfold Rp; rfl)
  | _ => exact post3.elim
theorem d_chain {a b c : Expr} {pos : Pos} {op op' : CmpOp} {r r' : R2} {o o' : DOp} {fa fb fc : DE} (hr : ∀ pn xe, OpR (X.tr pn xe) (compareOp op) r) (hr' : ∀ pn xe, OpR (X.tr pn xe) (compareOp op') r') (ho : DenOp T r o) (ho' : DenOp T r' o')
    (ha : PDe T X a fa) (hb : PDe T X b fb) (hc : PDe T X c fc) (hm : lastMarks [op, op'] [b, c] = false := by with_unfolding_all rfl) : PDe T X (.Compare a [op, op'] [b, c] pos) (dChain o o' fa fb fc) := fun pn xe W tk => by
  obtain ⟨t1, p1, d1⟩ := ha pn xe W tk
  obtain ⟨t2, p2, d2⟩ := hb pn xe W tk
  obtain ⟨t3, p3, d3⟩ := hc pn xe W tk
  exact ⟨_, pe_chain (hr pn xe) (hr' pn xe) p1 p2 p3 hm, den_chain ho ho' d1 d2 d3⟩
theorem t_chain {a b c : Expr} {pos : Pos} {op op' : CmpOp} {r r' : R2} {o o' : DOp} {fa fb fc : DE} (hr : ∀ pn xe, OpR (X.tr pn xe) (compareOp op) r) (hr' : ∀ pn xe, OpR (X.tr pn xe) (compareOp op') r') (ho : DenOp T r o) (ho' : DenOp T r' o')
    (ha : PDe T X a fa) (hb : PDe T X b fb) (hc : PDe T X c fc) (hm : lastMarks [op, op'] [b, c] = false := by with_unfolding_all rfl) : PDt T X (.Compare a [op, op'] [b, c] pos) (tst (dChain o o' fa fb fc)) := fun pn xe W tk => by
  obtain ⟨t1, p1, d1⟩ := ha pn xe W tk
  obtain ⟨t2, p2, d2⟩ := hb pn xe W tk
  obtain ⟨t3, p3, d3⟩ := hc pn xe W tk
  exact ⟨_, pt_chain (hr pn xe) (hr' pn xe) p1 p2 p3 hm, den_tst (den_chain ho ho' d1 d2 d3)⟩

/-! ## and, or, not, if-expressions -/
def tAndD (f g : DT) : DT := fun δ s => (f δ s).bind fun b s1 => match b with
  | true => g δ s1
  | false => .ok false s1
def tOrD (f g : DT) : DT := fun δ s => (f δ s).bind fun b s1 => match b with
  | true => .ok true s1
  | false => g δ s1
def tNotD (f : DT) : DT := fun δ s => (f δ s).bind fun b s1 => .ok (!b) s1
def PDw (T : Tb) (X : Cx) (e : Expr) (f : DT) : Prop := ∀ pn xe W, Takes (X.tr pn xe) W → ∃ t, PW (X.tr pn xe) e t ∧ DenG T eqR W t f
theorem PDw.t {e : Expr} {f : DT} (h : PDw T X e f) : PDt T X e f := fun pn xe W tk => by
  obtain ⟨t, p, d⟩ := h pn xe W tk
  exact ⟨t, p.pt, d⟩
section
variable {a b : Expr} {rest : List Expr} {pos : Pos} {fa fb : DT}
theorem w_and1 (ha : PDt T X a fa) : PDw T X (.BoolOp .And [a] pos) fa := fun pn xe W tk => by
  obtain ⟨t, p, d⟩ := ha pn xe W tk
  exact ⟨t, pw_and1 p, d⟩
theorem w_or1 (ha : PDt T X a fa) : PDw T X (.BoolOp .Or [a] pos) fa := fun pn xe W tk => by
  obtain ⟨t, p, d⟩ := ha pn xe W tk
  exact ⟨t, pw_or1 p, d⟩
theorem w_and (ha : PDt T X a fa) (hb : PDw T X (.BoolOp .And (b :: rest) pos) fb) : PDw T X (.BoolOp .And (a :: b :: rest) pos) (tAndD fa fb) := fun pn xe W tk => by
  obtain ⟨t1, p1, d1⟩ := ha pn xe W tk
  obtain ⟨t2, p2, d2⟩ := hb pn xe W tk
  refine ⟨_, pw_and p1 p2, fun σ H P ι F δ s Q R E post => ?_⟩
  show t1 σ H _
  refine den_then d1 R E post fun x y H1 ι1 F1 s1 g1 R1 E1 r1 post1 => ?_
  cases r1
  cases x with
  | true =>
    rw [if_pos rfl]
    exact d2 _ _ _ _ _ _ _ _ R1 E1 post1
  | false =>
    rw [if_neg Bool.false_ne_true]
    exact post1.here R1 rfl
theorem w_or (ha : PDt T X a fa) (hb : PDw T X (.BoolOp .Or (b :: rest) pos) fb) : PDw T X (.BoolOp .Or (a :: b :: rest) pos) (tOrD fa fb) := fun pn xe W tk => by
  obtain ⟨t1, p1, d1⟩ := ha pn xe W tk
  obtain ⟨t2, p2, d2⟩ := hb pn xe W tk
  refine ⟨_, pw_or p1 p2, fun σ H P ι F δ s Q R E post => ?_⟩
  show t1 σ H _
  refine den_then d1 R E post fun x y H1 ι1 F1 s1 g1 R1 E1 r1 post1 => ?_
  cases r1
  cases x with
  | true =>
    rw [if_pos rfl]
    exact post1.here R1 rfl
  | false =>
    rw [if_neg Bool.false_ne_true]
    exact d2 _ _ _ _ _ _ _ _ R1 E1 post1
theorem t_not (ha : PDt T X a fa) : PDt T X (.UnaryOp .Not a pos) (tNotD fa) := fun pn xe W tk => by
  obtain ⟨t1, p1, d1⟩ := ha pn xe W tk
  refine ⟨_, pt_not p1, fun σ H P ι F δ s Q R E post => ?_⟩
  show t1 σ H _
  refine den_then d1 R E post fun x y H1 ι1 F1 s1 g1 R1 E1 r1 post1 => ?_
  cases r1
  exact post1.here R1 rfl
end
def dAndV (f g : DE) : DE := fun δ s => (f δ s).bind fun x s1 => match x with
  | .bl true => g δ s1
  | .bl false => .ok (.bl false) s1
  | _ => .stuck
def dOrV (f g : DE) : DE := fun δ s => (f δ s).bind fun x s1 => match x with
  | .bl true => .ok (.bl true) s1
  | .bl false => g δ s1
  | _ => .stuck
def dNotV (f : DE) : DE := fun δ s => (f δ s).bind fun x s1 => match x with
  | .bl b => .ok (.bl (!b)) s1
  | _ => .stuck
def dIfE (c : DT) (f g : DE) : DE := fun δ s => (c δ s).bind fun b s1 => match b with
  | true => f δ s1
  | false => g δ s1
section
variable {a b c : Expr} {rest : List Expr} {pos : Pos} {fa fb : DE} {fc : DT}
theorem d_one {op} (ha : PDe T X a fa) : PDe T X (.BoolOp op [a] pos) fa := fun pn xe W tk => by
  obtain ⟨t1, p1, d1⟩ := ha pn xe W tk
  exact ⟨_, pe_one p1, d1⟩
theorem d_and (ha : PDe T X a fa) (hb : PDe T X (.BoolOp .And (b :: rest) pos) fb) : PDe T X (.BoolOp .And (a :: b :: rest) pos) (dAndV fa fb) := fun pn xe W tk => by
  obtain ⟨t1, p1, d1⟩ := ha pn xe W tk
  obtain ⟨t2, p2, d2⟩ := hb pn xe W tk
  refine ⟨_, pe_and p1 p2, fun σ H P ι F δ s Q R E post => ?_⟩
  show t1 σ H _
  refine den_then d1 R E post fun x y H1 ι1 F1 s1 g1 R1 E1 r1 post1 => ?_
  cases x with
  | bl b =>
    unfold Rp at r1
    refine ⟨b, r1, ?_⟩
    cases b with
    | true =>
      rw [if_pos rfl]
      exact d2 _ _ _ _ _ _ _ _ R1 E1 post1
    | false =>
      rw [if_neg Bool.false_ne_true]
      exact post1.here R1 (by unfold Rp; rfl)
  | _ => exact post1.elim
theorem d_or (ha : PDe T X a fa) (hb : PDe T X (.BoolOp .Or (b :: rest) pos) fb) : PDe T X (.BoolOp .Or (a :: b :: rest) pos) (dOrV fa fb) := fun pn xe W tk => by
  obtain ⟨t1, p1, d1⟩ := ha pn xe W tk
  obtain ⟨t2, p2, d2⟩ := hb pn xe W tk
  refine ⟨_, pe_or p1 p2, fun σ H P ι F δ s Q R E post => ?_⟩
  show t1 σ H _
  refine den_then d1 R E post fun x y H1 ι1 F1 s1 g1 R1 E1 r1 post1 => ?_
  cases x with
  | bl b =>
    unfold Rp at r1
    refine ⟨b, r1, ?_⟩
    cases b with
    | true =>
      rw [if_pos rfl]
      exact post1.here R1 (by unfold Rp; rfl)
    | false =>
      rw [if_neg Bool.false_ne_true]
      exact d2 _ _ _ _ _ _ _ _ R1 E1 post1
  | _ => exact post1.elim
theorem d_not (ha : PDe T X a fa) : PDe T X (.UnaryOp .Not a pos) (dNotV fa) := fun pn xe W tk => by
  obtain ⟨t1, p1, d1⟩ := ha pn xe W tk
  refine ⟨_, pe_not p1, fun σ H P ι F δ s Q R E post => ?_⟩
  show t1 σ H _
  refine den_then d1 R E post fun x y H1 ι1 F1 s1 g1 R1 E1 r1 post1 => ?_
  cases x with
  | bl b =>
    unfold Rp at r1
    exact ⟨b, r1, post1.here R1 (by unfold Rp; rfl)⟩
  | _ => exact post1.elim
theorem d_ifE (hc : PDt T X c fc) (ha : PDe T X a fa) (hb : PDe T X b fb) : PDe T X (.IfExp c a b pos) (dIfE fc fa fb) := fun pn xe W tk => by
  obtain ⟨t0, p0, d0⟩ := hc pn xe W tk
  obtain ⟨t1, p1, d1⟩ := ha pn xe W tk
  obtain ⟨t2, p2, d2⟩ := hb pn xe W tk
  refine ⟨_, pe_ifExp p0 p1 p2, fun σ H P ι F δ s Q R E post => ?_⟩
  show t0 σ H _
  refine den_then d0 R E post fun x y H1 ι1 F1 s1 g1 R1 E1 r1 post1 => ?_
  cases r1
  cases x with
  | true =>
    rw [if_pos rfl]
    exact d1 _ _ _ _ _ _ _ _ R1 E1 post1
  | false =>
    rw [if_neg Bool.false_ne_true]
    exact d2 _ _ _ _ _ _ _ _ R1 E1 post1
end
end
end Mp
/-! # MpC -/
namespace Mp
open PySem PySem.Spec L2

def lim : Nat := 1000000
theorem lim_le {n : Nat} (h : n ≤ lim) : n ≤ sizeLine := Nat.le_trans h (by rw [sizeLine_eq]; decide)
theorem lim_lt {n : Nat} (h : n ≤ lim) : n < sizeLine := Nat.lt_of_le_of_lt h (by rw [sizeLine_eq]; decide)
/-! ## what stands for lists and tuples -/
def lsOf (s : Sto) : D → Option (List D)
  | .lst xs => some xs
  | .loc n => match s[n]? with
    | some (.lst xs) => some xs
    | _ => none
  | _ => none
/-- a list that is only read -/
def lqOf (s : Sto) : D → Option (List D)
  | .scr ns => some (ns.map D.int)
  | d => lsOf s d
section
variable {T : Tb} {P : Hp} {ι : List Addr} {F : Hp} {s : Sto} {H : Hp}
theorem ls_of (R : RelH T P ι F s H) {d : D} {v : V} {xs : List D} (r : Rp T F ι d v) (e : lsOf s d = some xs) : ∃ a vs, v = .ref a ∧ H a = some (.lst vs) ∧ Rps T F ι xs vs := by
  unfold lsOf at e
  cases d with
  | lst ys =>
    cases e
    unfold Rp at r
    obtain ⟨a, vs, h1, h2, h3⟩ := r
    exact ⟨a, vs, h1, R.sub _ _ h2, h3⟩
  | loc n =>
    unfold Rp at r
    obtain ⟨a, h1, h2⟩ := r
    dsimp only at e
    cases q : s[n]? with
    | none => rw [q] at e; cases e
    | some c =>
      rw [q] at e
      cases c with
      | lst ys =>
        cases e
        obtain ⟨_, vs, h3, h4⟩ := R.cell n _ a q h1
        exact ⟨a, vs, h2, h3, h4⟩
      | _ => cases e
  | _ => cases e
theorem rps_ints : ∀ (ns : List Int), Rps T F ι (ns.map D.int) (ns.map V.int)
  | [] => .nil
  | n :: r => .cons (by unfold Rp; rfl) (rps_ints r)
theorem lq_of (R : RelH T P ι F s H) {d : D} {v : V} {xs : List D} (r : Rp T F ι d v) (e : lqOf s d = some xs) : ∃ a vs, v = .ref a ∧ SqL T.K H a vs ∧ Rps T F ι xs vs := by
  cases d with
  | scr ns =>
    unfold lqOf at e
    cases e
    unfold Rp at r
    obtain ⟨a, h1, h2⟩ := r
    exact ⟨a, _, h1, sql_mono R.sub h2, rps_ints ns⟩
  | _ =>
    obtain ⟨a, vs, h1, h2, h3⟩ := ls_of R r (show lsOf s _ = some xs from e)
    exact ⟨a, vs, h1, SqL.of h2, h3⟩
theorem tp_of (R : RelH T P ι F s H) {xs : List D} {v : V} (r : Rp T F ι (.tup xs) v) : ∃ a vs, v = .ref a ∧ H a = some (.tup vs) ∧ F a = some (.tup vs) ∧ Rps T F ι xs vs := by
  unfold Rp at r
  obtain ⟨a, vs, h1, h2, h3⟩ := r
  exact ⟨a, vs, h1, R.sub _ _ h2, h2, h3⟩
end

/-! ## arithmetic, sums of texts, lists, tuples -/
def oAdd : DOp
  | .int a, .int b, s => .ok (.int (a + b)) s
  | .str a, .str b, s => if a.length + b.length ≤ lim then .ok (.str (a ++ b)) s else .stuck
  | .tup a, .tup b, s => if a ≠ [] ∧ a.length + b.length ≤ lim then .ok (.tup (a ++ b)) s else .stuck
  | x, y, s => match lsOf s x, lsOf s y with
    | some a, some b => if a.length + b.length ≤ lim then .ok (.lst (a ++ b)) s else .stuck
    | _, _ => .stuck
def orR (r r' : R2) : R2 := fun x y H Q => r x y H Q ∨ r' x y H Q
theorem OpR.or {X : Cx} {f : Value → Value → Sem Value} {r r' : R2} (h : OpR X f r) (h' : OpR X f r') : OpR X f (orR r r') := by
  intro pins s σ H x y v u Q I rx ry q
  rcases q with q | q
  · exact h pins s σ H x y v u Q I rx ry q
  · exact h' pins s σ H x y v u Q I rx ry q
def rAddS : R2 := fun x y H Q => ∃ i j, x = .str i ∧ y = .str j ∧ i.length + j.length ≤ sizeLine ∧ Q (.str (i ++ j)) H
def rAddA (K : PySem.W.Frag) : R2 := orR (rI0 fun i j => .int (i + j)) (orR rAddS (orR rCat (rCatT K)))
theorem op_addA {X : Cx} : OpR X (binaryOp .Add) (rAddA X.K) := OpR.or op_add (OpR.or op_add_str (OpR.or op_cat op_catT))
section
variable {T : Tb}
theorem do_add : DenOp T (rAddA T.K) oAdd := by
  intro x y dx dy H P ι F s Q E R rx ry post
  have gen : ∀ a b, lsOf s dx = some a → lsOf s dy = some b → Post T P (Rp T) Q E F ι (if a.length + b.length ≤ lim then .ok (.lst (a ++ b)) s else .stuck) → rAddA T.K x y H Q := by
    intro a b h1 h2 post
    obtain ⟨p, vs, rfl, e1, e2⟩ := ls_of R rx h1
    obtain ⟨q, us, rfl, e3, e4⟩ := ls_of R ry h2
    split at post
    · rename_i hl
      refine .inr (.inr (.inl ⟨p, q, vs, us, rfl, rfl, e1, e3, by rw [← e2.len, ← e4.len]; exact lim_le hl, fun l hl => ?_⟩))
      refine post.new R hl fun g => ?_
      unfold Rp
      exact ⟨l, _, rfl, upd_same, (e2.app e4).mono g⟩
    · exact post.elim
  unfold oAdd at post
  split at post
  · unfold Rp at rx ry
    exact .inl ⟨_, _, rx, ry, post.here R (by unfold Rp; rfl)⟩
  · unfold Rp at rx ry
    rename_i a b _
    split at post
    · rename_i hl
      refine .inr (.inl ⟨_, _, rx, ry, by rw [S_len, S_len]; exact lim_le hl, ?_⟩)
      rw [S_cat]
      exact post.here R (by unfold Rp; rfl)
    · exact post.elim
  · rename_i a b _
    split at post
    · rename_i hl
      obtain ⟨p, vs, rfl, e1, _, e2⟩ := tp_of R rx
      obtain ⟨q, us, rfl, e3, _, e4⟩ := tp_of R ry
      refine .inr (.inr (.inr ⟨p, q, vs, us, rfl, rfl, SqT.of e1, SqT.of e3, ?_, by rw [← e2.len, ← e4.len]; exact lim_le hl.2, fun z => ?_, fun _ l hl => ?_⟩))
      · intro z
        have := e2.len
        rw [z] at this
        exact hl.1 (List.length_eq_zero_iff.mp this)
      · have := e4.len
        rw [z] at this
        rw [List.length_eq_zero_iff.mp this] at post
        refine post.here R ?_
        rw [List.append_nil]
        exact rx
      · refine post.new R hl fun g => ?_
        unfold Rp
        exact ⟨l, _, rfl, upd_same, (e2.app e4).mono g⟩
    · exact post.elim
  · split at post
    · rename_i a b h1 h2
      exact gen a b h1 h2 post
    · exact post.elim
/-- whole numbers in, under a condition -/
def oInt (c : Int → Int → Bool) (g : Int → Int → Int) : DOp
  | .int a, .int b, s => if c a b = true then .ok (.int (g a b)) s else .stuck
  | _, _, _ => .stuck
theorem do_int {c : Int → Int → Bool} {C : Int → Int → Prop} {g : Int → Int → Int} (h : ∀ a b, c a b = true → C a b) : DenOp T (rI C fun i j => .int (g i j)) (oInt c g) := by
  intro x y dx dy H P ι F s Q E R rx ry post
  unfold oInt at post
  split at post
  · split at post
    · rename_i hc
      unfold Rp at rx ry
      exact ⟨_, _, rx, ry, h _ _ hc, post.here R (by unfold Rp; rfl)⟩
    · exact post.elim
  · exact post.elim
theorem do_int0 {g : Int → Int → Int} : DenOp T (rI0 fun i j => .int (g i j)) (oInt (fun _ _ => true) g) := by
  intro x y dx dy H P ι F s Q E R rx ry post
  unfold oInt at post
  split at post
  · rw [if_pos rfl] at post
    unfold Rp at rx ry
    exact ⟨_, _, rx, ry, post.here R (by unfold Rp; rfl)⟩
  · exact post.elim
abbrev oSub : DOp := oInt (fun _ _ => true) (· - ·)
def cMul (i j : Int) : Bool := (decide (-(2 ^ 64) < i) && decide (i < 2 ^ 64)) || (decide (-(2 ^ 64) < j) && decide (j < 2 ^ 64))
abbrev oMul : DOp := oInt cMul (· * ·)
abbrev oDiv : DOp := oInt (fun _ j => decide (0 < j) && decide (j < 1073741824)) (· / ·)
abbrev oMod : DOp := oInt (fun _ j => decide (0 < j)) (· % ·)
def cPow (i j : Int) : Bool := decide (0 ≤ j) && (decide (j ≤ 1000000) && decide (i.natAbs < 2 ^ 64))
abbrev oPow : DOp := oInt cPow (fun i j => i ^ j.toNat)
abbrev oShl : DOp := oInt cPow (fun i j => i * 2 ^ j.toNat)
abbrev oShr : DOp := oInt (fun _ j => decide (0 ≤ j)) (fun i j => i / 2 ^ j.toNat)
abbrev oAnd : DOp := oInt (fun _ _ => true) Builtin.bitAnd
abbrev oOr : DOp := oInt (fun _ _ => true) Builtin.bitOr
theorem do_sub : DenOp T (rI0 fun i j => .int (i - j)) oSub := do_int0
theorem do_mul : DenOp T (rI CMul fun i j => .int (i * j)) oMul := do_int fun a b h => by
  unfold cMul at h
  unfold CMul
  simp only [Bool.or_eq_true, Bool.and_eq_true, decide_eq_true_eq] at h
  exact h
theorem do_div : DenOp T (rI CDiv fun i j => .int (i / j)) oDiv := do_int fun a b h => by
  simp only [Bool.and_eq_true, decide_eq_true_eq] at h
  exact h
theorem do_mod : DenOp T (rI (fun _ j => 0 < j) fun i j => .int (i % j)) oMod := do_int fun a b h => of_decide_eq_true h
theorem cPow_ok {a b : Int} (h : cPow a b = true) : CPow a b := by
  unfold cPow at h
  simp only [Bool.and_eq_true, decide_eq_true_eq] at h
  exact h
theorem do_pow : DenOp T (rI CPow fun i j => .int (i ^ j.toNat)) oPow := do_int fun a b h => cPow_ok h
theorem do_shl : DenOp T (rI CPow fun i j => .int (i * 2 ^ j.toNat)) oShl := do_int fun a b h => cPow_ok h
theorem do_shr : DenOp T (rI (fun _ j => 0 ≤ j) fun i j => .int (i / 2 ^ j.toNat)) oShr := do_int fun a b h => of_decide_eq_true h
theorem do_and : DenOp T (rI0 fun i j => .int (Builtin.bitAnd i j)) oAnd := do_int0
theorem do_or : DenOp T (rI0 fun i j => .int (Builtin.bitOr i j)) oOr := do_int0
/-! ## comparisons -/
def oCmp (g : Int → Int → Bool) : DOp
  | .int a, .int b, s => .ok (.bl (g a b)) s
  | _, _, _ => .stuck
theorem do_cmp {g : Int → Int → Bool} : DenOp T (rI0 fun i j => .bl (g i j)) (oCmp g) := by
  intro x y dx dy H P ι F s Q E R rx ry post
  unfold oCmp at post
  split at post
  · unfold Rp at rx ry
    exact ⟨_, _, rx, ry, post.here R (by unfold Rp; rfl)⟩
  · exact post.elim
abbrev oLt : DOp := oCmp fun i j => decide (i < j)
abbrev oLe : DOp := oCmp fun i j => decide (i ≤ j)
abbrev oGt : DOp := oCmp fun i j => decide (j < i)
abbrev oGe : DOp := oCmp fun i j => decide (j ≤ i)
mutual
def toP : D → Option PyData
  | .non => some .none
  | .bl b => some (.bool b)
  | .int i => some (.int i)
  | .str x => some (.str (S x))
  | .lst xs => (toPs xs).map .list
  | .tup xs => (toPs xs).map .tuple
  | .scr ns => some (.list (ns.map .int))
  | _ => none
def toPs : List D → Option (List PyData)
  | [] => some []
  | x :: xs => match toP x, toPs xs with
    | some p, some ps => some (p :: ps)
    | _, _ => none
end
theorem dp_ints {K : PySem.W.Frag} {H : Hp} : ∀ (ns : List Int), DpAll K H (ns.map V.int) (ns.map PyData.int)
  | [] => .nil
  | n :: r => .cons (.int n) (dp_ints r)
mutual
theorem dp_of {P : Hp} {ι : List Addr} {F : Hp} {s : Sto} {H : Hp} (R : RelH T P ι F s H) : ∀ {d : D} {v : V} {p : PyData}, Rp T F ι d v → toP d = some p → Dp T.K H v p
  | .non, v, p, r, e => by unfold Rp at r; subst r; cases e; exact .non
  | .bl _, v, p, r, e => by unfold Rp at r; subst r; cases e; exact .bl _
  | .int _, v, p, r, e => by unfold Rp at r; subst r; cases e; exact .int _
  | .str _, v, p, r, e => by unfold Rp at r; subst r; cases e; exact .str _
  | .scr ns, v, p, r, e => by
    unfold Rp at r
    obtain ⟨a, rfl, q⟩ := r
    cases e
    exact .lst (sql_mono R.sub q) (dp_ints ns)
  | .lst xs, v, p, r, e => by
    unfold Rp at r
    obtain ⟨a, vs, rfl, q, r⟩ := r
    unfold toP at e
    cases h : toPs xs with
    | none => rw [h] at e; cases e
    | some ps => rw [h] at e; cases e; exact .lst (SqL.of (R.sub _ _ q)) (dps_of R r h)
  | .tup xs, v, p, r, e => by
    unfold Rp at r
    obtain ⟨a, vs, rfl, q, r⟩ := r
    unfold toP at e
    cases h : toPs xs with
    | none => rw [h] at e; cases e
    | some ps => rw [h] at e; cases e; exact .tup (SqT.of (R.sub _ _ q)) (dps_of R r h)
  | .dct _ _, v, p, r, e => by cases e
  | .obj _ _ _, v, p, r, e => by cases e
  | .loc _, v, p, r, e => by cases e
  | .exc _, v, p, r, e => by cases e
  | .cls _, v, p, r, e => by cases e
  | .ty _, v, p, r, e => by cases e
theorem dps_of {P : Hp} {ι : List Addr} {F : Hp} {s : Sto} {H : Hp} (R : RelH T P ι F s H) : ∀ {ds : List D} {vs : List V} {ps : List PyData}, Rps T F ι ds vs → toPs ds = some ps → DpAll T.K H vs ps
  | [], vs, ps, r, e => by unfold Rps at r; subst r; cases e; exact .nil
  | x :: xs, vs, ps, r, e => by
    unfold Rps at r
    obtain ⟨v, us, rfl, r1, r2⟩ := r
    unfold toPs at e
    cases h1 : toP x with
    | none => rw [h1] at e; cases e
    | some p =>
      cases h2 : toPs xs with
      | none => rw [h1, h2] at e; cases e
      | some qs => rw [h1, h2] at e; cases e; exact .cons (dp_of R r1 h1) (dps_of R r2 h2)
end
def toPc (s : Sto) (d : D) : Option PyData := match lsOf s d with
  | some xs => (toPs xs).map .list
  | none => toP d
theorem dpc_of {P : Hp} {ι : List Addr} {F : Hp} {s : Sto} {H : Hp} (R : RelH T P ι F s H) {d : D} {v : V} {p : PyData} (r : Rp T F ι d v) (e : toPc s d = some p) : Dp T.K H v p := by
  unfold toPc at e
  cases h : lsOf s d with
  | none => rw [h] at e; exact dp_of R r e
  | some xs =>
    rw [h] at e
    dsimp only at e
    obtain ⟨a, vs, rfl, q, r⟩ := ls_of R r h
    cases h2 : toPs xs with
    | none => rw [h2] at e; cases e
    | some ps => rw [h2] at e; cases e; exact .lst (SqL.of q) (dps_of R r h2)
/-- ==, and its contrary -/
def scD : D → D → Option Bool
  | .int a, .int b => some (a == b)
  | .str a, .str b => some (a == b)
  | .bl a, .bl b => some (a == b)
  | .non, .non => some true
  | .non, .int _ | .non, .str _ | .non, .bl _ | .int _, .non | .str _, .non | .bl _, .non => some false
  | .int _, .str _ | .str _, .int _ | .bl _, .str _ | .str _, .bl _ => some false
  | _, _ => none
def oEqG (neg : Bool) : DOp := fun x y s => match scD x y with
  | some b => .ok (.bl (neg != b)) s
  | none => match toPc s x, toPc s y with
    | some p, some q => if (SeqAt.shaped p && SeqAt.shaped q) = true then .ok (.bl (neg != PyData.eqv p q)) s else .stuck
    | _, _ => .stuck
abbrev oEq : DOp := oEqG false
abbrev oNe : DOp := oEqG true
def rEqA (K : PySem.W.Frag) : R2 := orR rEq (rEqD K)
def rNeA (K : PySem.W.Frag) : R2 := orR rNe (rNeD K)
theorem op_eqA {X : Cx} (hu : X.A.units + 64 < cLine) : OpR X (compareOp .Eq) (rEqA X.K) := OpR.or op_eq (op_eqD hu)
theorem op_neA {X : Cx} (hu : X.A.units + 64 < cLine) : OpR X (compareOp .NotEq) (rNeA X.K) := OpR.or op_ne (op_neD hu)
theorem b1 (b : Bool) : (false != b) = b := by cases b <;> rfl
theorem b2 (b : Bool) : (true != b) = !b := by cases b <;> rfl
theorem beq_dec {α : Type} [BEq α] [LawfulBEq α] [DecidableEq α] (a b : α) : (a == b) = decide (a = b) := by
  by_cases h : a = b
  · rw [decide_eq_true h]; exact beq_iff_eq.mpr h
  · rw [decide_eq_false h]; exact beq_eq_false_iff_ne.mpr h
theorem dec_i {a b : Int} : decide (V.int a = V.int b) = (a == b) := by
  rw [beq_dec]; exact decide_eq_decide.mpr ⟨fun h => by injection h, fun h => by rw [h]⟩
theorem dec_s {a b : List Nat} : decide (V.str (S a) = V.str (S b)) = (a == b) := by
  rw [beq_dec]; exact decide_eq_decide.mpr ⟨fun h => by injection h with h; exact S_inj h, fun h => by rw [h]⟩
theorem dec_b {a b : Bool} : decide (V.bl a = V.bl b) = (a == b) := by cases a <;> cases b <;> rfl
theorem scD_ok {F : Hp} {ι : List Addr} {d e : D} {v u : V} {b : Bool} (r : Rp T F ι d v) (q : Rp T F ι e u) (h : scD d e = some b) : scal v u = true ∧ decide (v = u) = b := by
  unfold scD at h
  split at h
  all_goals first | cases h | skip
  all_goals
    unfold Rp at r q
    subst r q
    first | exact ⟨rfl, dec_i⟩ | exact ⟨rfl, dec_s⟩ | exact ⟨rfl, dec_b⟩ | exact ⟨rfl, rfl⟩
theorem do_eq : DenOp T (rEqA T.K) oEq := by
  intro x y dx dy H P ι F s Q E R rx ry post
  unfold oEq oEqG at post
  split at post
  · rename_i b hb
    obtain ⟨h1, h2⟩ := scD_ok rx ry hb
    exact .inl ⟨h1, post.here R (by unfold Rp; rw [b1, h2])⟩
  · split at post
    · rename_i p q h1 h2
      split at post
      · rename_i hs
        simp only [Bool.and_eq_true] at hs
        exact .inr ⟨p, q, dpc_of R rx h1, dpc_of R ry h2, hs.1, hs.2, post.here R (by unfold Rp; rw [b1])⟩
      · exact post.elim
    · exact post.elim
theorem do_ne : DenOp T (rNeA T.K) oNe := by
  intro x y dx dy H P ι F s Q E R rx ry post
  unfold oNe oEqG at post
  split at post
  · rename_i b hb
    obtain ⟨h1, h2⟩ := scD_ok rx ry hb
    exact .inl ⟨h1, post.here R (by unfold Rp; rw [b2, h2])⟩
  · split at post
    · rename_i p q h1 h2
      split at post
      · rename_i hs
        simp only [Bool.and_eq_true] at hs
        exact .inr ⟨p, q, dpc_of R rx h1, dpc_of R ry h2, hs.1, hs.2, post.here R (by unfold Rp; rw [b2])⟩
      · exact post.elim
    · exact post.elim
/-- is None, is not None -/
def isNon : D → Bool
  | .non => true
  | _ => false
theorem isNon_ok {F : Hp} {ι : List Addr} {d : D} {v : V} (r : Rp T F ι d v) : decide (v = .non) = isNon d := by
  cases d with
  | non => unfold Rp at r; subst r; rfl
  | tup _ => unfold Rp at r; obtain ⟨_, _, rfl, _⟩ := r; rfl
  | lst _ => unfold Rp at r; obtain ⟨_, _, rfl, _⟩ := r; rfl
  | scr _ => unfold Rp at r; obtain ⟨_, rfl, _⟩ := r; rfl
  | dct _ _ => unfold Rp at r; obtain ⟨_, _, rfl, _⟩ := r; rfl
  | obj _ _ _ => unfold Rp at r; obtain ⟨_, _, _, rfl, _⟩ := r; rfl
  | loc _ => unfold Rp at r; obtain ⟨_, _, rfl⟩ := r; rfl
  | exc _ => unfold Rp at r; obtain ⟨_, rfl, _⟩ := r; rfl
  | _ => unfold Rp at r; subst r; rfl
def oIs (neg : Bool) : DOp
  | x, .non, s => .ok (.bl (neg != isNon x)) s
  | _, _, _ => .stuck
def rIsN : R2 := fun x y H Q => y = .non ∧ Q (.bl (decide (x = .non))) H
def rNotN : R2 := fun x y H Q => y = .non ∧ Q (.bl (!decide (x = .non))) H
theorem do_is : DenOp T rIsN (oIs false) := by
  intro x y dx dy H P ι F s Q E R rx ry post
  unfold oIs at post
  split at post
  · refine ⟨by unfold Rp at ry; exact ry, post.here R ?_⟩
    unfold Rp; rw [b1, isNon_ok rx]
  · exact post.elim
theorem do_isnot : DenOp T rNotN (oIs true) := by
  intro x y dx dy H P ι F s Q E R rx ry post
  unfold oIs at post
  split at post
  · refine ⟨by unfold Rp at ry; exact ry, post.here R ?_⟩
    unfold Rp; rw [b2, isNon_ok rx]
  · exact post.elim
/-! ## in a list or tuple of flat things; in a text -/
def flatD : D → Bool
  | .non | .bl _ | .int _ | .str _ => true
  | _ => false
def eqF : D → D → Bool
  | .non, .non => true
  | .bl a, .bl b => a == b
  | .bl a, .int b => (if a then 1 else 0) == b
  | .int a, .bl b => a == (if b then 1 else 0)
  | .int a, .int b => a == b
  | .str a, .str b => a == b
  | _, _ => false
def tpOf : D → Option (List D)
  | .tup xs => some xs
  | _ => none
/-- x in xs -/
def oIn (neg : Bool) : DOp := fun x y s => match (lqOf s y).or (tpOf y) with
  | some xs => if (flatD x && xs.all flatD) = true then .ok (.bl (neg != xs.any fun y => eqF y x)) s else .stuck
  | none => .stuck
theorem flat_ok {F : Hp} {ι : List Addr} {d : D} {v : V} (r : Rp T F ι d v) (h : flatD d = true) : flatV v = true := by
  cases d <;> first | (unfold Rp at r; subst r; rfl) | cases h
theorem eqF_ok {F : Hp} {ι : List Addr} {d e : D} {v u : V} (r : Rp T F ι d v) (q : Rp T F ι e u) (h : flatD d = true) (k : flatD e = true) : eqV v u = eqF d e := by
  cases d <;> first | cases h | skip
  all_goals
    cases e <;> first | cases k | skip
    all_goals
      unfold Rp at r q
      subst r q
      first
        | rfl
        | (rename_i p q
           show (S p == S q) = (p == q)
           rw [beq_dec, beq_dec]
           exact decide_eq_decide.mpr ⟨fun h => S_inj h, fun h => by rw [h]⟩)
theorem in_ok {F : Hp} {ι : List Addr} {x : D} {v : V} (r : Rp T F ι x v) (h : flatD x = true) : ∀ {ds : List D} {vs : List V}, Rps T F ι ds vs → ds.all flatD = true → vs.all flatV = true ∧ (vs.any fun y => eqV y v) = ds.any fun y => eqF y x
  | [], vs, q, _ => by unfold Rps at q; subst q; exact ⟨rfl, rfl⟩
  | d :: ds, vs, q, k => by
    unfold Rps at q
    obtain ⟨u, us, rfl, q1, q2⟩ := q
    rw [List.all_cons, Bool.and_eq_true] at k
    obtain ⟨i1, i2⟩ := in_ok r h q2 k.2
    refine ⟨by rw [List.all_cons, flat_ok q1 k.1, i1]; rfl, ?_⟩
    rw [List.any_cons, List.any_cons, eqF_ok q1 r k.1 h, i2]
theorem lqtp_of {P : Hp} {ι : List Addr} {F : Hp} {s : Sto} {H : Hp} (R : RelH T P ι F s H) {d : D} {v : V} {xs : List D} (r : Rp T F ι d v) (e : (lqOf s d).or (tpOf d) = some xs) : ∃ a vs, v = .ref a ∧ (SqL T.K H a vs ∨ SqT T.K H a vs) ∧ Rps T F ι xs vs := by
  cases h : lqOf s d with
  | some ys =>
    rw [h] at e
    cases e
    obtain ⟨a, vs, h1, h2, h3⟩ := lq_of R r h
    exact ⟨a, vs, h1, .inl h2, h3⟩
  | none =>
    rw [h] at e
    cases d with
    | tup ys =>
      cases e
      obtain ⟨a, vs, h1, h2, _, h3⟩ := tp_of R r
      exact ⟨a, vs, h1, .inr (SqT.of h2), h3⟩
    | _ => cases e
theorem do_in {neg : Bool} : DenOp T (rIn T.K neg) (oIn neg) := by
  intro x y dx dy H P ι F s Q E R rx ry post
  unfold oIn at post
  split at post
  · rename_i xs h
    obtain ⟨a, vs, rfl, h2, h3⟩ := lqtp_of R ry h
    split at post
    · rename_i hf
      simp only [Bool.and_eq_true] at hf
      obtain ⟨i1, i2⟩ := in_ok rx hf.1 h3 hf.2
      refine ⟨a, vs, rfl, h2, flat_ok rx hf.1, i1, post.here R ?_⟩
      unfold Rp inV
      rw [i2]
      cases neg <;> simp
    · exact post.elim
  · exact post.elim
/-- one sign in a text -/
def oInS (neg : Bool) : DOp
  | .str [c], .str z, s => .ok (.bl (neg != decide (c ∈ z))) s
  | _, _, _ => .stuck
def rInS : R2 := fun x y H Q => ∃ (c : Nat) (z : Str), x = .str ⟨#[c]⟩ ∧ y = .str z ∧ Q (.bl (decide (c ∈ z.cps.toList))) H
def rNotInS : R2 := fun x y H Q => ∃ (c : Nat) (z : Str), x = .str ⟨#[c]⟩ ∧ y = .str z ∧ Q (.bl (!decide (c ∈ z.cps.toList))) H
theorem do_inS : DenOp T rInS (oInS false) := by
  intro x y dx dy H P ι F s Q E R rx ry post
  unfold oInS at post
  split at post
  · unfold Rp at rx ry
    exact ⟨_, _, rx, ry, post.here R (by unfold Rp; rw [b1]; exact congrArg V.bl (decide_eq_decide.mpr (by simp [S])))⟩
  · exact post.elim
theorem do_notInS : DenOp T rNotInS (oInS true) := by
  intro x y dx dy H P ι F s Q E R rx ry post
  unfold oInS at post
  split at post
  · unfold Rp at rx ry
    exact ⟨_, _, rx, ry, post.here R (by unfold Rp; rw [b2]; exact congrArg V.bl (congrArg Bool.not (decide_eq_decide.mpr (by simp [S]))))⟩
  · exact post.elim
/-! ## subscripts -/
theorem at_ok {F : Hp} {ι : List Addr} {ds : List D} {vs : List V} {i : Int} {d : D} (r : Rps T F ι ds vs) (h : atI ds i = some d) : ∃ v, atI vs i = some v ∧ Rp T F ι d v := by
  unfold atI at h ⊢
  rw [← r.len]
  cases e : ixN ds.length i with
  | none => rw [e] at h; cases h
  | some j =>
    rw [e] at h
    exact r.get h
def oIx : DOp
  | .str z, .int i, s => if z.length ≤ lim then match atI z i with
    | some c => .ok (.str [c]) s
    | none => .stuck
    else .stuck
  | x, .int i, s => match (lqOf s x).or (tpOf x) with
    | some xs => match atI xs i with
      | some d => .ok d s
      | none => .stuck
    | none => .stuck
  | _, _, _ => .stuck
theorem do_ix : DenOp T (rIx T.K) oIx := by
  intro x y dx dy H P ι F s Q E R rx ry post
  unfold oIx at post
  split at post
  · split at post
    · rename_i hl
      split at post
      · rename_i c hc
        unfold Rp at rx ry
        refine .inr (.inr ⟨S _, _, c, rx, ry, by rw [S_len]; exact lim_le hl, ?_, post.here R (by unfold Rp; rfl)⟩)
        simpa [S] using hc
      · exact post.elim
    · exact post.elim
  · split at post
    · rename_i xs h
      split at post
      · rename_i d hd
        unfold Rp at ry
        obtain ⟨a, vs, rfl, h2, h3⟩ := lqtp_of R rx h
        obtain ⟨v, h4, h5⟩ := at_ok h3 hd
        rcases h2 with h2 | h2
        · exact .inl ⟨a, vs, _, v, rfl, ry, h2, h4, post.here R h5⟩
        · exact .inr (.inl ⟨a, vs, _, v, rfl, ry, h2, h4, post.here R h5⟩)
      · exact post.elim
    · exact post.elim
  · exact post.elim
theorem d_ix {X : Cx} {a b : Expr} {pos : Pos} {fa fb : DE} (ha : PDe T X a fa) (hb : PDe T X b fb) (hs : PlainIx b := by exact fun _ _ => rfl) (hK : X.K = T.K := by rfl) : PDe T X (.Subscript a b pos) (dOp oIx fa fb) := fun pn xe W tk => by
  obtain ⟨t1, p1, d1⟩ := ha pn xe W tk
  obtain ⟨t2, p2, d2⟩ := hb pn xe W tk
  exact ⟨_, pe_ix (X := X.tr pn xe) ix_seq p1 p2 hs, den_op (by show DenOp T (rIx X.K) oIx; rw [hK]; exact do_ix) d1 d2⟩
/-! ## slices -/
def cutL {α : Type} (xs : List α) (lo hi : Option Int) : List α := (xs.drop (HT.sIx xs.length 0 lo)).take (HT.sIx xs.length xs.length hi - HT.sIx xs.length 0 lo)
theorem cut_ok {F : Hp} {ι : List Addr} {ds : List D} {vs : List V} (r : Rps T F ι ds vs) (lo hi : Option Int) : Rps T F ι (cutL ds lo hi) (cutV vs lo hi) := by
  unfold cutL cutV
  rw [← r.len]
  exact (r.drop _).take _
abbrev DOI := Env → Sto → Res (Option Int)
def pNone : DOI := fun _ s => .ok none s
def pSome (f : DE) : DOI := fun δ s => (f δ s).bind fun x s1 => match x with
  | .int i => .ok (some i) s1
  | _ => .stuck
def PDo (T : Tb) (X : Cx) (e : Option Expr) (f : DOI) : Prop := ∀ pn xe W, Takes (X.tr pn xe) W → ∃ t, PO (X.tr pn xe) e t ∧ DenG T eqR W t f
theorem o_none {X : Cx} : PDo T X none pNone := fun pn xe W _ => ⟨_, po_none, fun _ _ _ _ _ _ _ _ R _ post => post.here R rfl⟩
theorem o_some {X : Cx} {e : Expr} {f : DE} (h : PDe T X e f) : PDo T X (some e) (pSome f) := fun pn xe W tk => by
  obtain ⟨t1, p1, d1⟩ := h pn xe W tk
  refine ⟨_, po_some p1, fun σ H P ι F δ s Q R E post => ?_⟩
  show t1 σ H _
  refine den_then d1 R E post fun x y H1 ι1 F1 s1 g1 R1 E1 r1 post1 => ?_
  cases x with
  | int i =>
    unfold Rp at r1
    exact ⟨i, r1, post1.here R1 rfl⟩
  | _ => exact post1.elim
def oSl (x : D) (lo hi : Option Int) (s : Sto) : Res D := match x with
  | .str z => if z.length ≤ lim then .ok (.str (cutL z lo hi)) s else .stuck
  | .tup xs => if HT.sIx xs.length 0 lo = 0 ∧ HT.sIx xs.length xs.length hi = xs.length then .stuck else .ok (.tup (cutL xs lo hi)) s
  | x => match lqOf s x with
    | some xs => .ok (.lst (cutL xs lo hi)) s
    | none => .stuck
def dSl (f : DE) (lo hi : DOI) : DE := fun δ s => (f δ s).bind fun x s1 => (lo δ s1).bind fun l s2 => (hi δ s2).bind fun u s3 => oSl x l u s3
theorem d_sl {X : Cx} {e : Expr} {lo hi : Option Expr} {p2 pos : Pos} {f : DE} {g h : DOI} (he : PDe T X e f) (hl : PDo T X lo g) (hh : PDo T X hi h) (hK : X.K = T.K := by rfl) : PDe T X (.Subscript e (.Slice lo hi none p2) pos) (dSl f g h) := fun pn xe W tk => by
  obtain ⟨t1, p1, d1⟩ := he pn xe W tk
  obtain ⟨t2, p2, d2⟩ := hl pn xe W tk
  obtain ⟨t3, p3, d3⟩ := hh pn xe W tk
  refine ⟨_, pe_slice (X := X.tr pn xe) (sl_list.or (sl_tup.or sl_str)) p1 p2 p3, fun σ H P ι F δ s Q R E post => ?_⟩
  show t1 σ H _
  refine den_then d1 R E post fun x y H1 ι1 F1 s1 g1 R1 E1 r1 post1 => ?_
  refine den_then d2 R1 E1 post1 fun l l' H2 ι2 F2 s2 g2 R2 E2 r2 post2 => ?_
  refine den_then d3 R2 E2 post2 fun u u' H3 ι3 F3 s3 g3 R3 E3 r3 post3 => ?_
  cases r2
  cases r3
  have rx := (r1.mono g2).mono g3
  have hK' : (X.tr pn xe).K = T.K := hK
  rw [hK']
  unfold oSl at post3
  split at post3
  · rename_i z
    split at post3
    · rename_i hz
      unfold Rp at rx
      refine .inr (.inr ⟨S z, rx, by rw [S_len]; exact lim_le hz, post3.here R3 ?_⟩)
      unfold Rp cutS cutL
      simp [S, Str.length]
    · exact post3.elim
  · rename_i xs
    split at post3
    · exact post3.elim
    · rename_i hw
      obtain ⟨a, vs, rfl, h2, _, h3⟩ := tp_of R3 rx
      refine .inr (.inl ⟨a, vs, rfl, SqT.of h2, by rw [← h3.len]; exact hw, fun p hp => ?_⟩)
      refine post3.new R3 hp fun g => ?_
      unfold Rp
      exact ⟨p, _, rfl, upd_same, (cut_ok h3 l u).mono g⟩
  · split at post3
    · rename_i xs h
      obtain ⟨a, vs, rfl, h2, h3⟩ := lq_of R3 rx h
      refine .inl ⟨a, vs, rfl, h2, fun p hp => ?_⟩
      refine post3.new R3 hp fun g => ?_
      unfold Rp
      exact ⟨p, _, rfl, upd_same, (cut_ok h3 l u).mono g⟩
    · exact post3.elim
/-! ## displays -/
def dTup (f : DA) : DE := fun δ s => (f δ s).bind fun xs s1 => if xs.length ≤ lim then .ok (.tup xs) s1 else .stuck
def dLst (f : DA) : DE := fun δ s => (f δ s).bind fun xs s1 => if xs.length ≤ lim then .ok (.lst xs) s1 else .stuck
theorem d_tup {X : Cx} {es : List Expr} {x1 : Nat} {pos : Pos} {f : DA} (h : PDa T X es f) : PDe T X (.Tuple es x1 pos) (dTup f) := fun pn xe W tk => by
  obtain ⟨t1, p1, d1⟩ := h pn xe W tk
  refine ⟨_, pe_tup p1, fun σ H P ι F δ s Q R E post => ?_⟩
  show t1 σ H _
  refine den_then d1 R E post fun x y H1 ι1 F1 s1 g1 R1 E1 r1 post1 => ?_
  split at post1
  · rename_i hl
    refine ⟨by rw [← r1.1.len]; exact lim_le hl, fun p hp => post1.new R1 hp fun g => ?_⟩
    unfold Rp
    exact ⟨p, _, rfl, upd_same, r1.1.mono g⟩
  · exact post1.elim
theorem d_lst {X : Cx} {es : List Expr} {pos : Pos} {f : DA} (h : PDa T X es f) : PDe T X (.List es pos) (dLst f) := fun pn xe W tk => by
  obtain ⟨t1, p1, d1⟩ := h pn xe W tk
  refine ⟨_, pe_lst p1, fun σ H P ι F δ s Q R E post => ?_⟩
  show t1 σ H _
  refine den_then d1 R E post fun x y H1 ι1 F1 s1 g1 R1 E1 r1 post1 => ?_
  split at post1
  · rename_i hl
    refine ⟨by rw [← r1.1.len]; exact lim_le hl, fun p hp => post1.new R1 hp fun g => ?_⟩
    unfold Rp
    exact ⟨p, _, rfl, upd_same, r1.1.mono g⟩
  · exact post1.elim
/-! ## unary minus -/
def dUn (g : Int → Int) (f : DE) : DE := fun δ s => (f δ s).bind fun x s1 => match x with
  | .int i => .ok (.int (g i)) s1
  | _ => .stuck
theorem d_neg {X : Cx} {a : Expr} {pos : Pos} {f : DE} (h : PDe T X a f) : PDe T X (.UnaryOp .USub a pos) (dUn (fun i => -i) f) := fun pn xe W tk => by
  obtain ⟨t1, p1, d1⟩ := h pn xe W tk
  refine ⟨_, pe_un un_neg p1, fun σ H P ι F δ s Q R E post => ?_⟩
  show t1 σ H _
  refine den_then d1 R E post fun x y H1 ι1 F1 s1 g1 R1 E1 r1 post1 => ?_
  cases x with
  | int i =>
    unfold Rp at r1
    exact ⟨i, r1, post1.here R1 (by unfold Rp; rfl)⟩
  | _ => exact post1.elim
end
end Mp
/-! # MpD -/
namespace Mp
open PySem PySem.Spec L2

/-! ## statements -/
inductive Out where
  | nx (δ : Env) (s : Sto) | rt (d : D) (s : Sto) | bk (δ : Env) (s : Sto) | ct (δ : Env) (s : Sto) | ex (c : Nat) (δ : Env) (s : Sto) | stuck
abbrev DS := Env → Sto → Out
def PostS (T : Tb) (P : Hp) (En : Ends) (W : WX) (F : Hp) (ι : List Addr) : Out → Prop
  | .nx δ' s' => ∀ σ' H' ι' F', Grow F ι F' ι' → RelH T P ι' F' s' H' → REnv T F' ι' δ' σ' → En.nx σ' H'
  | .bk δ' s' => ∀ σ' H' ι' F', Grow F ι F' ι' → RelH T P ι' F' s' H' → REnv T F' ι' δ' σ' → En.bk σ' H'
  | .ct δ' s' => ∀ σ' H' ι' F', Grow F ι F' ι' → RelH T P ι' F' s' H' → REnv T F' ι' δ' σ' → En.ct σ' H'
  | .rt d s' => ∀ v H' ι' F', Grow F ι F' ι' → RelH T P ι' F' s' H' → Rp T F' ι' d v → En.rt v H'
  | .ex c δ' s' => ∀ σ' H' ι' F', Grow F ι F' ι' → RelH T P ι' F' s' H' → REnv T F' ι' δ' σ' → W (.ref (T.ca c)) none σ' H'
  | .stuck => False
theorem PostS.mono {T : Tb} {P : Hp} {En : Ends} {W : WX} {F F1 : Hp} {ι ι1 : List Addr} {r : Out} (g : Grow F ι F1 ι1) (h : PostS T P En W F ι r) : PostS T P En W F1 ι1 r := by
  cases r with
  | stuck => exact h
  | _ => exact fun v H' ι' F' g' => h v H' ι' F' (g.trans g')
def DenS (T : Tb) (W : WX) (t : TS) (g : DS) : Prop := ∀ En σ H P ι F δ s, RelH T P ι F s H → REnv T F ι δ σ → PostS T P En W F ι (g δ s) → t En σ H
def PDs (T : Tb) (X : Cx) (st : Stmt) (g : DS) : Prop := ∀ pn xe W, Takes (X.tr pn xe) W → PassesOwn (model X.prog X.w) X.A X.env xe → ∃ t, PS (X.tr pn xe) st t ∧ DenS T W t g
def PDb (T : Tb) (X : Cx) (st : List Stmt) (g : DS) : Prop := ∀ pn xe W, Takes (X.tr pn xe) W → PassesOwn (model X.prog X.w) X.A X.env xe → ∃ t, PSs (X.tr pn xe) st t ∧ DenS T W t g
/-- a value, then a statement's end -/
def Res.out {α : Type} (δ : Env) : Res α → (α → Sto → Out) → Out
  | .ok a s, k => k a s
  | .exc c s, _ => .ex c δ s
  | .stuck, _ => .stuck
theorem dens_then {α β : Type} {T : Tb} {R1 : Hp → List Addr → α → β → Prop} {W : WX} {t : L2.St → Hp → (β → Hp → Prop) → Prop} {f : Env → Sto → Res α} {k : α → Sto → Out}
    {σ : L2.St} {H P : Hp} {ι : List Addr} {F : Hp} {δ : Env} {s : Sto} {En : Ends} {G : β → Hp → Prop} (h1 : DenG T R1 W t f) (R : RelH T P ι F s H) (E : REnv T F ι δ σ)
    (post : PostS T P En W F ι ((f δ s).out δ k))
    (hk : ∀ x y H1 ι1 F1 s1, Grow F ι F1 ι1 → RelH T P ι1 F1 s1 H1 → REnv T F1 ι1 δ σ → R1 F1 ι1 x y → PostS T P En W F1 ι1 (k x s1) → G y H1) : t σ H G := by
  refine h1 σ H P ι F δ s G R E ?_
  cases e : f δ s with
  | ok x s1 =>
    rw [e] at post
    exact fun v H' ι' F' g R' r => hk x v H' ι' F' s1 g R' (E.mono g) r (post.mono g)
  | exc c s1 =>
    rw [e] at post
    exact fun H' ι' F' g R' => post σ H' ι' F' g R' (E.mono g)
  | stuck =>
    rw [e] at post
    exact post
/-! ## targets -/
abbrev DTg := D → Env → Option Env
def tgN (i : Nat) : DTg := fun d δ => some (δ.set i (some d))
def tgs : List DTg → List D → Env → Option Env
  | [], [], δ => some δ
  | t :: ts, d :: ds, δ => (t d δ).bind fun δ1 => tgs ts ds δ1
  | _, _, _ => none
def tgT (ts : List DTg) : DTg := fun d δ => match d with
  | .tup xs => tgs ts xs δ
  | _ => none
/-- apart from the slots ws they are the same -/
def Off (ws : List Nat) (σ σ' : L2.St) : Prop := σ'.length = σ.length ∧ ∀ j, j ∉ ws → σ'[j]? = σ[j]?
def DenT (T : Tb) (ws : List Nat) (g : TG) (f : DTg) : Prop := ∀ σ H P ι F δ δ' s d v Q, RelH T P ι F s H → REnv T F ι δ σ → Rp T F ι d v → f d δ = some δ' → (∀ σ', REnv T F ι δ' σ' → Off ws σ σ' → Q σ' H) → g v σ H Q
def DenTs (T : Tb) (ws : List Nat) (g : TGs) (f : List DTg) : Prop := ∀ σ H P ι F δ δ' s ds vs Q, RelH T P ι F s H → REnv T F ι δ σ → Rps T F ι ds vs → tgs f ds δ = some δ' → (∀ σ', REnv T F ι δ' σ' → Off ws σ σ' → Q σ' H) → g vs σ H Q
def PDg (T : Tb) (X : Cx) (tg : Expr) (ws : List Nat) (f : DTg) : Prop := ∀ pn xe, ∃ g, PG (X.tr pn xe) tg g ∧ DenT T ws g f
def PDgs (T : Tb) (X : Cx) (tg : List Expr) (ws : List Nat) (f : List DTg) : Prop := ∀ pn xe, ∃ g, PGs (X.tr pn xe) tg g ∧ DenTs T ws g f
theorem Off.refl (ws : List Nat) (σ : L2.St) : Off ws σ σ := ⟨rfl, fun _ _ => rfl⟩
theorem Off.set (σ : L2.St) (i : Nat) (o : Option V) : Off [i] σ (σ.set i o) := ⟨by simp, fun j hj => by rw [List.getElem?_set_ne (by intro h; exact hj (by simp [h]))]⟩
theorem Off.app {ws vs : List Nat} {a b c : L2.St} (h : Off ws a b) (k : Off vs b c) : Off (ws ++ vs) a c :=
  ⟨k.1.trans h.1, fun j hj => (k.2 j (fun z => hj (List.mem_append_right _ z))).trans (h.2 j (fun z => hj (List.mem_append_left _ z)))⟩
theorem wipe_at (σ : L2.St) (j : Nat) : ∀ vs : List Nat, (wipe σ vs)[j]? = if j ∈ vs ∧ j < σ.length then some none else σ[j]?
  | [] => by simp [wipe]
  | v :: vs => by
    unfold wipe
    rw [List.getElem?_set, wipe_length, wipe_at σ j vs]
    by_cases h : v = j
    · subst h
      by_cases hl : v < σ.length
      · simp [hl]
      · simp [hl, List.getElem?_eq_none (Nat.le_of_not_lt hl)]
    · have h' : ¬ j = v := fun z => h z.symm
      simp [h, h']
theorem Off.wipe {ws vs : List Nat} {σ σ' : L2.St} (h : Off ws σ σ') (hs : ∀ i ∈ ws, i ∈ vs) : L2.wipe σ' vs = L2.wipe σ vs := by
  refine List.ext_getElem? fun j => ?_
  rw [wipe_at, wipe_at, h.1]
  by_cases c : j ∈ vs ∧ j < σ.length
  · rw [if_pos c, if_pos c]
  · rw [if_neg c, if_neg c]
    by_cases hj : j ∈ ws
    · have hl : ¬ j < σ.length := fun z => c ⟨hs j hj, z⟩
      rw [List.getElem?_eq_none (Nat.le_of_not_lt hl), List.getElem?_eq_none (by rw [h.1]; exact Nat.le_of_not_lt hl)]
    · exact h.2 j hj
section
variable {T : Tb} {X : Cx}
theorem g_name {x : Str} {pos : Pos} (i : Nat) (hN : X.N.Nodup) (hi : X.N[i]? = some x := by rfl) (hx : Loc X.env.scope x := by first | exact Or.inl rfl | exact Or.inr rfl) (hf : X.fn x = true ∨ X.env.scope.names.lookup x = some .local := by first | exact .inl rfl | exact .inr rfl) : PDg T X (.Name x pos) [i] (tgN i) := fun pn xe =>
  ⟨_, pg_name (X := X.tr pn xe) hN hi hx hf, fun σ H P ι F δ δ' s d v Q R E r e k => by
    cases e
    exact k _ (E.set r i) (Off.set _ _ _)⟩
theorem gs_nil : PDgs T X [] [] [] := fun pn xe => ⟨_, pgs_nil, fun σ H P ι F δ δ' s ds vs Q R E r e k => by
    cases ds with
    | nil =>
      unfold Rps at r
      subst r
      cases e
      exact ⟨rfl, k _ E (Off.refl _ _)⟩
    | cons d ds => cases e⟩
theorem gs_cons {e : Expr} {es : List Expr} {ws vs : List Nat} {f : DTg} {fs : List DTg} (h1 : PDg T X e ws f) (h2 : PDgs T X es vs fs) (hs : (assignEach (e :: es) X.env).map (·.2) = assign e X.env :: (assignEach es X.env).map (·.2) := by rfl) : PDgs T X (e :: es) (ws ++ vs) (f :: fs) := fun pn xe => by
  obtain ⟨g1, p1, d1⟩ := h1 pn xe
  obtain ⟨g2, p2, d2⟩ := h2 pn xe
  refine ⟨_, pgs_cons (X := X.tr pn xe) p1 p2 hs, fun σ H P ι F δ δ' s ds vs Q R E r e k => ?_⟩
  cases ds with
  | nil => cases e
  | cons d ds =>
    unfold Rps at r
    obtain ⟨v, us, rfl, r1, r2⟩ := r
    have e' : (f d δ).bind (fun δ1 => tgs fs ds δ1) = some δ' := e
    cases q : f d δ with
    | none => rw [q] at e'; cases e'
    | some δ1 =>
      rw [q] at e'
      exact ⟨v, us, rfl, d1 _ _ _ _ _ _ _ _ _ _ _ R E r1 q fun σ1 E1 o1 => d2 _ _ _ _ _ _ _ _ _ _ _ R E1 r2 e' fun σ2 E2 o2 => k σ2 E2 (o1.app o2)⟩
theorem tgs_len : ∀ {ts : List DTg} {ds : List D} {δ δ' : Env}, tgs ts ds δ = some δ' → ds.length = ts.length
  | [], [], _, _, _ => rfl
  | [], _ :: _, _, _, e => by cases e
  | _ :: _, [], _, _, e => by cases e
  | t :: ts, d :: ds, δ, δ', e => by
    have e' : (t d δ).bind (fun δ1 => tgs ts ds δ1) = some δ' := e
    cases q : t d δ with
    | none => rw [q] at e'; cases e'
    | some δ1 => rw [q] at e'; simp [tgs_len e']
theorem g_tup {es : List Expr} {k : Nat} {pos : Pos} {ws : List Nat} {fs : List DTg} (h : PDgs T X es ws fs) (hn : (assignEach es X.env).length = fs.length := by rfl) (hst : (assignEach es X.env).findIdx? (·.1) = none := by rfl) (hc : X.calm = true := by rfl) (hK : X.K = T.K := by rfl) : PDg T X (.Tuple es k pos) ws (tgT fs) := fun pn xe => by
  obtain ⟨g1, p1, d1⟩ := h pn xe
  refine ⟨_, pg_tup (X := X.tr pn xe) hc p1 hn hst, fun σ H P ι F δ δ' s d v Q R E r e k => ?_⟩
  cases d with
  | tup xs =>
    obtain ⟨a, vs, rfl, h1, _, h2⟩ := tp_of R r
    have e' : tgs fs xs δ = some δ' := e
    refine ⟨a, vs, rfl, SqT.of h1, ?_, d1 _ _ _ _ _ _ _ _ _ _ _ R E h2 e' k⟩
    rw [← h2.len]
    exact tgs_len e'
  | _ => cases e
/-! ## simple statements -/
def sAsg (f : DE) (t : DTg) : DS := fun δ s => (f δ s).out δ fun d s1 => match t d δ with
  | some δ1 => .nx δ1 s1
  | none => .stuck
theorem s_asg {tg e : Expr} {pos : Pos} {f : DE} {ws : List Nat} {t : DTg} (he : PDe T X e f) (hg : PDg T X tg ws t) (hs : swapsWithSole [tg] e pos.line X.env = pure false := by rfl) (hw : swappedStores [tg] e X.env = pure none := by rfl)
    (h1 : (assignEach [tg] X.env).map (·.2) = [assign tg X.env] := by rfl) : PDs T X (.Assign [tg] e pos) (sAsg f t) := fun pn xe W tk _ => by
  obtain ⟨t1, p1, d1⟩ := he pn xe W tk
  obtain ⟨g1, q1, e1⟩ := hg pn xe
  refine ⟨_, ps_asg (X := X.tr pn xe) p1 q1 hs hw h1, fun En σ H P ι F δ s R E post => ?_⟩
  show t1 σ H _
  refine dens_then d1 R E post fun x y H1 ι1 F1 s1 g R1 E1 r1 post1 => ?_
  cases q : t x δ with
  | none => rw [q] at post1; exact post1.elim
  | some δ1 =>
    rw [q] at post1
    exact e1 _ _ _ _ _ _ _ _ _ _ _ R1 E1 r1 q fun σ' E' _ => post1 σ' H1 ι1 F1 (Grow.refl _ _) R1 E'
def sSet (i : Nat) (f : DE) : DS := sAsg f (tgN i)
theorem s_set {x : Str} {e : Expr} {pos pos' : Pos} {f : DE} (i : Nat) (hN : X.N.Nodup) (he : PDe T X e f) (hi : X.N[i]? = some x := by rfl) (hx : Loc X.env.scope x := by first | exact Or.inl rfl | exact Or.inr rfl)
    (hs : swapsWith e (some (.Name x pos')) pos.line X.env = pure false := by rfl) (hf : X.fn x = true ∨ X.env.scope.names.lookup x = some .local := by first | exact .inl rfl | exact .inr rfl) : PDs T X (.Assign [.Name x pos'] e pos) (sSet i f) := fun pn xe W tk _ => by
  obtain ⟨t1, p1, d1⟩ := he pn xe W tk
  refine ⟨_, ps_set (X := X.tr pn xe) hN hi hx p1 hs hf, fun En σ H P ι F δ s R E post => ?_⟩
  show t1 σ H _
  refine dens_then d1 R E post fun x y H1 ι1 F1 s1 g R1 E1 r1 post1 => ?_
  exact post1 _ H1 ι1 F1 (Grow.refl _ _) R1 (E1.set r1 i)
def sDrop (f : DE) : DS := fun δ s => (f δ s).out δ fun _ s1 => .nx δ s1
theorem s_expr {e : Expr} {pos : Pos} {f : DE} (he : PDe T X e f) (hs : swapsWith e none pos.line X.env = pure false := by rfl) : PDs T X (.Expr e pos) (sDrop f) := fun pn xe W tk _ => by
  obtain ⟨t1, p1, d1⟩ := he pn xe W tk
  refine ⟨_, ps_expr (X := X.tr pn xe) p1 hs, fun En σ H P ι F δ s R E post => ?_⟩
  show t1 σ H _
  refine dens_then d1 R E post fun x y H1 ι1 F1 s1 g R1 E1 r1 post1 => ?_
  exact post1 _ H1 ι1 F1 (Grow.refl _ _) R1 E1
def sRet (f : DE) : DS := fun δ s => (f δ s).out δ fun d s1 => .rt d s1
theorem s_ret {e : Expr} {pos : Pos} {f : DE} (he : PDe T X e f) : PDs T X (.Return (some e) pos) (sRet f) := fun pn xe W tk _ => by
  obtain ⟨t1, p1, d1⟩ := he pn xe W tk
  refine ⟨_, ps_ret p1, fun En σ H P ι F δ s R E post => ?_⟩
  show t1 σ H _
  refine dens_then d1 R E post fun x y H1 ι1 F1 s1 g R1 E1 r1 post1 => ?_
  exact post1 y H1 ι1 F1 (Grow.refl _ _) R1 r1
def sRetN : DS := fun _ s => .rt .non s
theorem s_retN {pos : Pos} : PDs T X (.Return none pos) sRetN := fun pn xe W _ _ => ⟨_, ps_retN, fun En σ H P ι F δ s R E post => post .non H ι F (Grow.refl _ _) R (by unfold Rp; rfl)⟩
def sPass : DS := fun δ s => .nx δ s
def sBrk : DS := fun δ s => .bk δ s
def sCt : DS := fun δ s => .ct δ s
theorem s_pass {pos : Pos} : PDs T X (.Pass pos) sPass := fun pn xe W _ _ => ⟨_, ps_pass, fun En σ H P ι F δ s R E post => post σ H ι F (Grow.refl _ _) R E⟩
theorem s_brk {pos : Pos} : PDs T X (.Break pos) sBrk := fun pn xe W _ _ => ⟨_, ps_break, fun En σ H P ι F δ s R E post => post σ H ι F (Grow.refl _ _) R E⟩
theorem s_ct {pos : Pos} : PDs T X (.Continue pos) sCt := fun pn xe W _ _ => ⟨_, ps_continue, fun En σ H P ι F δ s R E post => post σ H ι F (Grow.refl _ _) R E⟩
def sIf (c : DT) (f g : DS) : DS := fun δ s => (c δ s).out δ fun b s1 => match b with
  | true => f δ s1
  | false => g δ s1
theorem s_if {c : Expr} {a b : List Stmt} {pos : Pos} {fc : DT} {f g : DS} (hc : PDt T X c fc) (ha : PDb T X a f) (hb : PDb T X b g) : PDs T X (.If c a b pos) (sIf fc f g) := fun pn xe W tk ow => by
  obtain ⟨t0, p0, d0⟩ := hc pn xe W tk
  obtain ⟨t1, p1, d1⟩ := ha pn xe W tk ow
  obtain ⟨t2, p2, d2⟩ := hb pn xe W tk ow
  refine ⟨_, ps_if p0 p1 p2, fun En σ H P ι F δ s R E post => ?_⟩
  show t0 σ H _
  refine dens_then d0 R E post fun x y H1 ι1 F1 s1 g R1 E1 r1 post1 => ?_
  cases r1
  cases x with
  | true =>
    rw [if_pos rfl]
    exact d1 _ _ _ _ _ _ _ _ R1 E1 post1
  | false =>
    rw [if_neg Bool.false_ne_true]
    exact d2 _ _ _ _ _ _ _ _ R1 E1 post1
/-! ## blocks -/
def Out.andThen (o : Out) (k : DS) : Out := match o with
  | .nx δ s => k δ s
  | o => o
def sSeq (f g : DS) : DS := fun δ s => (f δ s).andThen g
theorem b_nil : PDb T X [] sPass := fun pn xe W _ _ => ⟨_, pss_nil, fun En σ H P ι F δ s R E post => post σ H ι F (Grow.refl _ _) R E⟩
theorem b_one {st : Stmt} {f : DS} (h : PDs T X st f) : PDb T X [st] f := fun pn xe W tk ow => by
  obtain ⟨t1, p1, d1⟩ := h pn xe W tk ow
  exact ⟨_, pss_one p1, d1⟩
theorem b_cons {st : Stmt} {rest : List Stmt} {f g : DS} (h : PDs T X st f) (hr : PDb T X rest g) : PDb T X (st :: rest) (sSeq f g) := fun pn xe W tk ow => by
  obtain ⟨t1, p1, d1⟩ := h pn xe W tk ow
  obtain ⟨t2, p2, d2⟩ := hr pn xe W tk ow
  refine ⟨_, pss_cons p1 p2, fun En σ H P ι F δ s R E post => ?_⟩
  show t1 { En with nx := t2 En } σ H
  refine d1 _ _ _ _ _ _ _ _ R E ?_
  unfold sSeq at post
  cases e : f δ s with
  | nx δ1 s1 =>
    rw [e] at post
    exact fun σ' H' ι' F' g' R' E' => d2 _ _ _ _ _ _ _ _ R' E' (post.mono g')
  | rt d s1 => rw [e] at post; exact post
  | bk δ1 s1 => rw [e] at post; exact post
  | ct δ1 s1 => rw [e] at post; exact post
  | ex c δ1 s1 => rw [e] at post; exact post
  | stuck => rw [e] at post; exact post
/-! ## iterables -/
def Walks (T : Tb) (J : It) (ds : List D) (F : Hp) (ι : List Addr) : Prop :=
  L2.Walk J ds.length (fun H => ∀ a o, F a = some o → H a = some o) fun i H x H2 => ∃ d, ds[i]? = some d ∧
    ((H2 = H ∧ Rp T F ι d x) ∨ ∃ p vs xs, x = .ref p ∧ H p = none ∧ H2 = upd H p (.tup vs) ∧ d = .tup xs ∧ Rps T F ι xs vs)
abbrev DIt := Env → Sto → Res (List D)
def DenI (T : Tb) (W : WX) (wi : TI) (f : DIt) : Prop := DenG T (fun F ι ds J => Walks T J ds F ι) W wi f
def PDi (T : Tb) (X : Cx) (tg iter : Expr) (f : DIt) : Prop := ∀ pn xe W, Takes (X.tr pn xe) W → ∃ wi, PI (X.tr pn xe) tg iter wi ∧ DenI T W wi f
theorem get_lt {α : Type} {xs : List α} {i : Nat} (h : i < xs.length) : ∃ x, xs[i]? = some x := ⟨xs[i], by simp [h]⟩
theorem walks_list {F : Hp} {ι : List Addr} {a : Addr} {vs : List V} {ds : List D} (h : SqL T.K F a vs) (r : Rps T F ι ds vs) : Walks T (Itl T.K a) ds F ι := by
  have w : L2.Walk (Itl T.K a) vs.length (fun H => SqL T.K H a vs) (YAt vs) := walk_list
  unfold Walks
  rw [r.len]
  refine w.mono (fun H hF => sql_mono hF h) fun i H x H' hi hF y => ?_
  obtain ⟨e1, e2⟩ := y
  have hi' : i < ds.length := by rw [r.len]; exact hi
  obtain ⟨d, hd⟩ := get_lt hi'
  obtain ⟨v, h1, h2⟩ := r.get hd
  rw [e2] at h1
  cases h1
  exact ⟨d, hd, .inl ⟨e1, h2⟩⟩
theorem walks_tup {F : Hp} {ι : List Addr} {a : Addr} {vs : List V} {ds : List D} (h : F a = some (.tup vs)) (r : Rps T F ι ds vs) : Walks T (Itt T.K a) ds F ι := by
  have w : L2.Walk (Itt T.K a) vs.length (fun H => SqT T.K H a vs) (YAt vs) := walk_tup
  unfold Walks
  rw [r.len]
  refine w.mono (fun H hF => SqT.of (hF _ _ h)) fun i H x H' hi hF y => ?_
  obtain ⟨e1, e2⟩ := y
  have hi' : i < ds.length := by rw [r.len]; exact hi
  obtain ⟨d, hd⟩ := get_lt hi'
  obtain ⟨v, h1, h2⟩ := r.get hd
  rw [e2] at h1
  cases h1
  exact ⟨d, hd, .inl ⟨e1, h2⟩⟩
/-- a list or a tuple that stays -/
def itSeq (f : DE) : DIt := fun δ s => (f δ s).bind fun x s1 => match x with
  | .lst xs => .ok xs s1
  | .scr ns => .ok (ns.map D.int) s1
  | .tup xs => .ok xs s1
  | _ => .stuck
theorem PI.or {tg e : Expr} {w w' : TI} (h : PI X tg e w) (h' : PI X tg e w') : PI X tg e (fun σ H R => w σ H R ∨ w' σ H R) := ⟨fun pins s σ H R I q => by
  rcases q with q | q
  · exact h.run pins s σ H R I q
  · exact h'.run pins s σ H R I q⟩
theorem den_iL {W : WX} {t : TE} {f : DE} (h : DenG T (Rp T) W t f) {σ : L2.St} {H P : Hp} {ι : List Addr} {F : Hp} {δ : Env} {s : Sto} {Q : It → Hp → Prop} (R : RelH T P ι F s H) (E : REnv T F ι δ σ)
    (post : Post T P (fun F ι ds J => Walks T J ds F ι) Q (fun c H' => W (.ref (T.ca c)) none σ H') F ι ((f δ s).bind fun x s1 => match x with
      | .lst xs => .ok xs s1
      | .scr ns => .ok (ns.map D.int) s1
      | _ => .stuck)) : iList T.K t σ H Q := by
  show t σ H _
  refine den_then h R E post fun x y H1 ι1 F1 s1 g R1 E1 r1 post1 => ?_
  cases x with
  | lst xs =>
    unfold Rp at r1
    obtain ⟨a, vs, rfl, h1, h2⟩ := r1
    exact ⟨a, rfl, ⟨vs, SqL.of (R1.sub _ _ h1)⟩, post1.here R1 (walks_list (SqL.of h1) h2)⟩
  | scr ns =>
    unfold Rp at r1
    obtain ⟨a, rfl, h1⟩ := r1
    exact ⟨a, rfl, ⟨_, sql_mono R1.sub h1⟩, post1.here R1 (walks_list h1 (rps_ints ns))⟩
  | _ => exact post1.elim
theorem den_iT {W : WX} {t : TE} {f : DE} (h : DenG T (Rp T) W t f) {σ : L2.St} {H P : Hp} {ι : List Addr} {F : Hp} {δ : Env} {s : Sto} {Q : It → Hp → Prop} (R : RelH T P ι F s H) (E : REnv T F ι δ σ)
    (post : Post T P (fun F ι ds J => Walks T J ds F ι) Q (fun c H' => W (.ref (T.ca c)) none σ H') F ι ((f δ s).bind fun x s1 => match x with
      | .tup xs => .ok xs s1
      | _ => .stuck)) : iTup T.K t σ H Q := by
  show t σ H _
  refine den_then h R E post fun x y H1 ι1 F1 s1 g R1 E1 r1 post1 => ?_
  cases x with
  | tup xs =>
    obtain ⟨a, vs, rfl, h1, h0, h2⟩ := tp_of R1 r1
    exact ⟨a, rfl, ⟨vs, SqT.of h1⟩, post1.here R1 (walks_tup h0 h2)⟩
  | _ => exact post1.elim
theorem i_seq {tg e : Expr} {f : DE} (h : PDe T X e f) (hK : X.K = T.K := by rfl) : PDi T X tg e (itSeq f) := fun pn xe W tk => by
  obtain ⟨t1, p1, d1⟩ := h pn xe W tk
  have hK' : (X.tr pn xe).K = T.K := hK
  refine ⟨_, PI.or (pi_list p1) (pi_tup p1), fun σ H P ι F δ s Q R E post => ?_⟩
  rw [hK']
  unfold itSeq at post
  cases e : f δ s with
  | ok x s1 =>
    rw [e] at post
    cases x with
    | lst xs => exact .inl (den_iL d1 R E (by rw [e]; exact post))
    | scr ns => exact .inl (den_iL d1 R E (by rw [e]; exact post))
    | tup xs => exact .inr (den_iT d1 R E (by rw [e]; exact post))
    | _ => exact post.elim
  | exc c s1 => rw [e] at post; exact .inl (den_iL d1 R E (by rw [e]; exact post))
  | stuck => rw [e] at post; exact post.elim
/-- range(n), range(a, b) -/
def intsD (a : Int) (n : Nat) : List D := (List.range n).map fun (i : Nat) => D.int (a + (i : Int))
def small62 (i : Int) : Bool := decide (-(2 ^ 62) ≤ i) && decide (i < 2 ^ 62)
def itR1 (f : DA) : DIt := fun δ s => (f δ s).bind fun xs s1 => match xs with
  | [.int n] => if small62 n = true then .ok (intsD 0 n.toNat) s1 else .stuck
  | _ => .stuck
def itR2 (f : DA) : DIt := fun δ s => (f δ s).bind fun xs s1 => match xs with
  | [.int a, .int b] => if (small62 a && small62 b) = true then .ok (intsD a (b - a).toNat) s1 else .stuck
  | _ => .stuck
theorem walks_range {F : Hp} {ι : List Addr} (a : Int) (n : Nat) : Walks T (Itr a n) (intsD a n) F ι := by
  have w : L2.Walk (Itr a n) n (fun _ => True) (YFn fun i => .int (a + i)) := walk_range
  unfold Walks
  have hl : (intsD a n).length = n := by simp [intsD]
  rw [hl]
  refine w.mono (fun H hF => trivial) fun i H x H' hi hF y => ?_
  obtain ⟨e1, e2⟩ := y
  refine ⟨.int (a + i), ?_, .inl ⟨e1, by unfold Rp; exact e2⟩⟩
  simp [intsD, List.getElem?_range hi]
theorem rps1 {F : Hp} {ι : List Addr} {d : D} {vs : List V} (r : Rps T F ι [d] vs) : ∃ v, vs = [v] ∧ Rp T F ι d v := by
  unfold Rps at r
  obtain ⟨v, us, rfl, h1, h2⟩ := r
  unfold Rps at h2
  subst h2
  exact ⟨v, rfl, h1⟩
theorem rps2 {F : Hp} {ι : List Addr} {d e : D} {vs : List V} (r : Rps T F ι [d, e] vs) : ∃ v u, vs = [v, u] ∧ Rp T F ι d v ∧ Rp T F ι e u := by
  unfold Rps at r
  obtain ⟨v, us, rfl, h1, h2⟩ := r
  obtain ⟨u, rfl, h3⟩ := rps1 h2
  exact ⟨v, u, rfl, h1, h3⟩
theorem i_range1 {tg a : Expr} {p pos : Pos} {f : DA} (hm : X.mg "range" = none) (ha : PDa T X [a] f) (hg : Gl X "range" := by rfl) (hs : starEach [a] X.env = [(false, eval a X.env)] := by rfl) : PDi T X tg (.Call (.Name "range" p) [a] [] pos) (itR1 f) := fun pn xe W tk => by
  obtain ⟨t1, p1, d1⟩ := ha pn xe W tk
  refine ⟨_, pi_range1 (X := X.tr pn xe) hg hm p1 hs, fun σ H P ι F δ s Q R E post => ?_⟩
  show t1 σ H _
  refine den_then d1 R E post fun x y H1 ι1 F1 s1 g R1 E1 r1 post1 => ?_
  split at post1
  · obtain ⟨v, rfl, h1⟩ := rps1 r1.1
    unfold Rp at h1
    split at post1
    · rename_i hn
      unfold small62 at hn
      simp only [Bool.and_eq_true, decide_eq_true_eq] at hn
      exact ⟨_, by rw [h1], hn.1, hn.2, post1.here R1 (walks_range _ _)⟩
    · exact post1.elim
  · exact post1.elim
theorem i_range2 {tg a b : Expr} {p pos : Pos} {f : DA} (hm : X.mg "range" = none) (ha : PDa T X [a, b] f) (hg : Gl X "range" := by rfl) (hs : starEach [a, b] X.env = [(false, eval a X.env), (false, eval b X.env)] := by rfl) (hs2 : starEach [b] X.env = [(false, eval b X.env)] := by rfl) : PDi T X tg (.Call (.Name "range" p) [a, b] [] pos) (itR2 f) := fun pn xe W tk => by
  obtain ⟨t1, p1, d1⟩ := ha pn xe W tk
  refine ⟨_, pi_range2 (X := X.tr pn xe) hg hm p1 hs hs2, fun σ H P ι F δ s Q R E post => ?_⟩
  show t1 σ H _
  refine den_then d1 R E post fun x y H1 ι1 F1 s1 g R1 E1 r1 post1 => ?_
  split at post1
  · obtain ⟨v, u, rfl, h1, h2⟩ := rps2 r1.1
    unfold Rp at h1 h2
    split at post1
    · rename_i hn
      unfold small62 at hn
      simp only [Bool.and_eq_true, decide_eq_true_eq] at hn
      exact ⟨_, _, by rw [h1, h2], ⟨hn.1.1, hn.1.2, hn.2.1, hn.2.2⟩, post1.here R1 (walks_range _ _)⟩
    · exact post1.elim
  · exact post1.elim
/-- zip of two lists, of two tuples -/
def zipD : List D → List D → List D
  | x :: xs, y :: ys => .tup [x, y] :: zipD xs ys
  | _, _ => []
theorem zipD_len : ∀ (xs ys : List D), (zipD xs ys).length = min xs.length ys.length
  | [], _ => by simp [zipD]
  | _ :: _, [] => by simp [zipD]
  | x :: xs, y :: ys => by simp [zipD, zipD_len xs ys]
theorem zipD_at : ∀ {xs ys : List D} {i : Nat} {x y : D}, xs[i]? = some x → ys[i]? = some y → (zipD xs ys)[i]? = some (.tup [x, y])
  | [], _, _, _, _, h, _ => by simp at h
  | _ :: _, [], _, _, _, _, h => by simp at h
  | a :: xs, b :: ys, 0, x, y, h, k => by simp at h k; subst h k; rfl
  | a :: xs, b :: ys, i + 1, x, y, h, k => by
    have := zipD_at (xs := xs) (ys := ys) (i := i) (x := x) (y := y) (by simpa using h) (by simpa using k)
    simpa [zipD] using this
def itZip (f : DA) : DIt := fun δ s => (f δ s).bind fun xs s1 => match xs with
  | [.lst a, .lst b] => .ok (zipD a b) s1
  | [.tup a, .tup b] => .ok (zipD a b) s1
  | _ => .stuck
theorem walks_zip {F : Hp} {ι : List Addr} {a b : Addr} {vs us : List V} {ds es : List D} (h : SqL T.K F a vs) (h' : SqL T.K F b us) (r : Rps T F ι ds vs) (r' : Rps T F ι es us) : Walks T (Itz T.K a b) (zipD ds es) F ι := by
  have w : L2.Walk (Itz T.K a b) (min vs.length us.length) (fun H => SqL T.K H a vs ∧ SqL T.K H b us) (YPair (fun i => vs[i]?) (fun i => us[i]?)) := walk_zip rfl
  unfold Walks
  rw [zipD_len, r.len, r'.len]
  refine w.mono (fun H hF => ⟨sql_mono hF h, sql_mono hF h'⟩) fun i H x H' hi hF y => ?_
  obtain ⟨p, v, u, e1, e2, e3, e4, e5⟩ := y
  have hi1 : i < ds.length := by rw [r.len]; omega
  have hi2 : i < es.length := by rw [r'.len]; omega
  obtain ⟨d, hd⟩ := get_lt hi1
  obtain ⟨e, he⟩ := get_lt hi2
  obtain ⟨v', h1, h2⟩ := r.get hd
  obtain ⟨u', h3, h4⟩ := r'.get he
  have e4' : vs[i]? = some v := e4
  have e5' : us[i]? = some u := e5
  rw [e4'] at h1
  rw [e5'] at h3
  cases h1
  cases h3
  exact ⟨_, zipD_at hd he, .inr ⟨p, [v, u], [d, e], e1, e2, e3, rfl, .cons h2 (.cons h4 .nil)⟩⟩
theorem walk_zipT {K : PySem.W.Frag} {a b : Addr} {xs ys : List V} : L2.Walk (RZ.ItzT K a b) (min xs.length ys.length) (fun H => H a = some (.tup xs) ∧ H b = some (.tup ys)) (YPair (fun i => xs[i]?) (fun i => ys[i]?)) where
  goes := fun i H hi h => by
    obtain ⟨x, hx⟩ := get_lt (xs := xs) (i := i) (by omega)
    obtain ⟨y, hy⟩ := get_lt (xs := ys) (i := i) (by omega)
    exact ⟨xs, ys, x, y, SqT.of h.1, SqT.of h.2, hx, hy⟩
  stops := fun H h => ⟨xs, ys, SqT.of h.1, SqT.of h.2, by omega⟩
  yields := fun i H x H' hi h y => by
    obtain ⟨p, v, u, e1, e2, e3, e4, e5⟩ := y
    exact ⟨p, v, u, e1, e2, e3, e4 _ (SqT.of h.1), e5 _ (SqT.of h.2)⟩
theorem walks_zipT {F : Hp} {ι : List Addr} {a b : Addr} {vs us : List V} {ds es : List D} (h : F a = some (.tup vs)) (h' : F b = some (.tup us)) (r : Rps T F ι ds vs) (r' : Rps T F ι es us) : Walks T (RZ.ItzT T.K a b) (zipD ds es) F ι := by
  have w : L2.Walk (RZ.ItzT T.K a b) (min vs.length us.length) (fun H => H a = some (.tup vs) ∧ H b = some (.tup us)) (YPair (fun i => vs[i]?) (fun i => us[i]?)) := walk_zipT
  unfold Walks
  rw [zipD_len, r.len, r'.len]
  refine w.mono (fun H hF => ⟨hF _ _ h, hF _ _ h'⟩) fun i H x H' hi hF y => ?_
  obtain ⟨p, v, u, e1, e2, e3, e4, e5⟩ := y
  have hi1 : i < ds.length := by rw [r.len]; omega
  have hi2 : i < es.length := by rw [r'.len]; omega
  obtain ⟨d, hd⟩ := get_lt hi1
  obtain ⟨e, he⟩ := get_lt hi2
  obtain ⟨v', h1, h2⟩ := r.get hd
  obtain ⟨u', h3, h4⟩ := r'.get he
  have e4' : vs[i]? = some v := e4
  have e5' : us[i]? = some u := e5
  rw [e4'] at h1
  rw [e5'] at h3
  cases h1
  cases h3
  exact ⟨_, zipD_at hd he, .inr ⟨p, [v, u], [d, e], e1, e2, e3, rfl, .cons h2 (.cons h4 .nil)⟩⟩
theorem i_zip {e e2 : Expr} {p pos tpos : Pos} {elts : List Expr} {kk : Nat} {f : DA} (hm : X.mg "zip" = none) (ha : PDa T X [e, e2] f) (hg : Gl X "zip" := by rfl)
    (hs : starEach [e, e2] X.env = (false, eval e X.env) :: starEach [e2] X.env := by rfl) (hpl : (backTo pos (starEach [e2] X.env)).any (·.1) = false := by rfl) (hK : X.K = T.K := by rfl) :
    PDi T X (.Tuple elts kk tpos) (.Call (.Name "zip" p) [e, e2] [] pos) (itZip f) := fun pn xe W tk => by
  obtain ⟨t1, p1, d1⟩ := ha pn xe W tk
  have hK' : (X.tr pn xe).K = T.K := hK
  refine ⟨_, RZ.pi_zipA (X := X.tr pn xe) hg hm p1 hs hpl, fun σ H P ι F δ s Q R E post => ?_⟩
  rw [hK']
  show t1 σ H _
  refine den_then d1 R E post fun x y H1 ι1 F1 s1 g R1 E1 r1 post1 => ?_
  split at post1
  · obtain ⟨v, u, rfl, h1, h2⟩ := rps2 r1.1
    unfold Rp at h1 h2
    obtain ⟨a, vs, rfl, h3, h4⟩ := h1
    obtain ⟨b, us, rfl, h5, h6⟩ := h2
    exact ⟨a, b, vs, us, rfl, .inl ⟨SqL.of (R1.sub _ _ h3), SqL.of (R1.sub _ _ h5), post1.here R1 (walks_zip (SqL.of h3) (SqL.of h5) h4 h6)⟩⟩
  · obtain ⟨v, u, rfl, h1, h2⟩ := rps2 r1.1
    obtain ⟨a, vs, rfl, h3, h3', h4⟩ := tp_of R1 h1
    obtain ⟨b, us, rfl, h5, h5', h6⟩ := tp_of R1 h2
    exact ⟨a, b, vs, us, rfl, .inr ⟨SqT.of h3, SqT.of h5, post1.here R1 (walks_zipT h3' h5' h4 h6)⟩⟩
  · exact post1.elim
/-! ## for -/
def forL (t : DTg) (body : DS) : List D → DS
  | [], δ, s => .nx δ s
  | d :: r, δ, s => match t d δ with
    | none => .stuck
    | some δ1 => match body δ1 s with
      | .nx δ2 s2 => forL t body r δ2 s2
      | .ct δ2 s2 => forL t body r δ2 s2
      | .bk δ2 s2 => .nx δ2 s2
      | o => o
def sFor (it : DIt) (t : DTg) (body : DS) : DS := fun δ s => (it δ s).out δ fun ds s1 => forL t body ds δ s1
theorem drop_get {α : Type} {xs : List α} {i : Nat} {x : α} (h : xs[i]? = some x) : xs.drop i = x :: xs.drop (i + 1) := by
  have hi := (List.getElem?_eq_some_iff.mp h).1
  have e := (List.getElem?_eq_some_iff.mp h).2
  rw [List.drop_eq_getElem_cons hi, e]
/-- the item has come: the heap goes on, the item is at hand -/
theorem item_ok {P : Hp} {ι0 ι : List Addr} {F0 F : Hp} {s : Sto} {H H2 : Hp} {d : D} {x : V} (g : Grow F0 ι0 F ι) (R : RelH T P ι F s H) (y : (H2 = H ∧ Rp T F0 ι0 d x) ∨ ∃ p vs xs, x = .ref p ∧ H p = none ∧ H2 = upd H p (.tup vs) ∧ d = .tup xs ∧ Rps T F0 ι0 xs vs) :
    ∃ F', Grow F ι F' ι ∧ RelH T P ι F' s H2 ∧ Rp T F' ι d x := by
  rcases y with ⟨e, r⟩ | ⟨p, vs, xs, e1, e2, e3, e4, e5⟩
  · subst e
    exact ⟨F, Grow.refl _ _, R, r.mono g⟩
  · subst e1 e3 e4
    refine ⟨upd F p (.tup vs), grow_new (R.freeF e2) _, R.new e2 _, ?_⟩
    unfold Rp
    exact ⟨p, vs, rfl, upd_same, e5.mono (g.trans (grow_new (R.freeF e2) _))⟩
theorem den_for {W : WX} {wi : TI} {f : DIt} {g : TG} {ws : List Nat} {t : DTg} {tb : TS} {body : DS} (hi : DenI T W wi f) (hg : DenT T ws g t) (hb : DenS T W tb body) : DenS T W (tFor wi g tb) (sFor f t body) := fun En σ H P ι F δ s R E post => by
  show wi σ H _
  refine dens_then hi R E post fun ds J H1 ι1 F1 s1 g1 R1 E1 w post1 => ?_
  refine for_it w (fun i σ' H' => ∃ ι' F' δ' s', Grow F1 ι1 F' ι' ∧ RelH T P ι' F' s' H' ∧ REnv T F' ι' δ' σ' ∧ PostS T P En W F' ι' (forL t body (ds.drop i) δ' s')) ⟨ι1, F1, δ, s1, Grow.refl _ _, R1, E1, by simpa using post1⟩ ?_ ?_ ?_
  · rintro i σ' H' _ ⟨ι', F', δ', s', g', R', E', _⟩
    exact fun a o h => R'.sub _ _ (g'.1 _ _ h)
  · rintro i x σ' H' H2 hi ⟨ι', F', δ', s', g', R', E', post'⟩ ⟨d, hd, y⟩
    obtain ⟨F2, g2, R2, r2⟩ := item_ok g' R' y
    rw [drop_get hd] at post'
    unfold forL at post'
    cases q : t d δ' with
    | none => rw [q] at post'; exact post'.elim
    | some δ1 =>
      rw [q] at post'
      dsimp only at post'
      refine hg _ _ _ _ _ _ _ _ _ _ _ R2 (E'.mono g2) r2 q fun σ2 E2 _ => ?_
      refine hb _ _ _ _ _ _ _ _ R2 E2 ?_
      cases qb : body δ1 s' with
      | nx δ2 s2 =>
        rw [qb] at post'
        exact fun σ3 H3 ι3 F3 g3 R3 E3 => ⟨ι3, F3, δ2, s2, (g'.trans g2).trans g3, R3, E3, post'.mono (g2.trans g3)⟩
      | ct δ2 s2 =>
        rw [qb] at post'
        exact fun σ3 H3 ι3 F3 g3 R3 E3 => ⟨ι3, F3, δ2, s2, (g'.trans g2).trans g3, R3, E3, post'.mono (g2.trans g3)⟩
      | bk δ2 s2 =>
        rw [qb] at post'
        exact post'.mono g2
      | rt d2 s2 =>
        rw [qb] at post'
        exact post'.mono g2
      | ex c δ2 s2 =>
        rw [qb] at post'
        exact post'.mono g2
      | stuck => rw [qb] at post'; exact post'.elim
  · rintro σ' H' ⟨ι', F', δ', s', g', R', E', post'⟩
    rw [List.drop_length] at post'
    exact post' σ' H' ι' F' (Grow.refl _ _) R' E'
theorem s_for {tg iter : Expr} {body : List Stmt} {pos : Pos} {f : DIt} {ws : List Nat} {t : DTg} {g : DS} (hi : PDi T X tg iter f) (hg : PDg T X tg ws t) (hb : PDb T X body g) (hc : X.calm = true := by rfl) (hs : ∀ x, foldedSetIterable iter X.env x = pure x := by intro _; rfl) : PDs T X (.For tg iter body [] pos) (sFor f t g) := fun pn xe W tk ow => by
  obtain ⟨wi, p1, d1⟩ := hi pn xe W tk
  obtain ⟨g1, p2, d2⟩ := hg pn xe
  obtain ⟨tb, p3, d3⟩ := hb pn xe W tk ow
  exact ⟨_, ps_for (X := X.tr pn xe) ow hc p1 p2 p3 hs, den_for d1 d2 d3⟩
/-! ## while, so many turns at the most -/
def whL (c : DT) (body : DS) : Nat → DS
  | 0, _, _ => .stuck
  | n + 1, δ, s => (c δ s).out δ fun b s1 => match b with
    | false => .nx δ s1
    | true => match body δ s1 with
      | .nx δ2 s2 => whL c body n δ2 s2
      | .ct δ2 s2 => whL c body n δ2 s2
      | .bk δ2 s2 => .nx δ2 s2
      | o => o
def sWh (n : Nat) (c : DT) (body : DS) : DS := whL c body n
theorem den_while {W : WX} {tc : TT} {c : DT} {tb : TS} {body : DS} (n : Nat) (hc : DenG T eqR W tc c) (hb : DenS T W tb body) : DenS T W (tWhile tc tb) (sWh n c body) := fun En σ H P ι F δ s R E post => by
  refine ⟨fun m σ' H' => ∃ ι' F' δ' s', RelH T P ι' F' s' H' ∧ REnv T F' ι' δ' σ' ∧ PostS T P En W F' ι' (whL c body m δ' s'), ⟨n, ι, F, δ, s, R, E, post⟩, ?_⟩
  rintro m σ' H' ⟨ι', F', δ', s', R', E', post'⟩
  cases m with
  | zero => exact post'.elim
  | succ m =>
    unfold whL at post'
    refine dens_then hc R' E' post' fun b b' H1 ι1 F1 s1 g1 R1 E1 eb post1 => ?_
    cases eb
    cases b with
    | false =>
      rw [if_neg Bool.false_ne_true]
      exact post1 _ _ _ _ (Grow.refl _ _) R1 E1
    | true =>
      rw [if_pos rfl]
      refine ⟨fun σ2 H2 => ∃ ι2 F2 δ2 s2, RelH T P ι2 F2 s2 H2 ∧ REnv T F2 ι2 δ2 σ2 ∧ PostS T P En W F2 ι2 (whL c body m δ2 s2), fun σ2 H2 z => ⟨m, Nat.lt_succ_self _, z⟩, ?_⟩
      refine hb _ _ _ _ _ _ _ _ R1 E1 ?_
      dsimp only at post1
      cases qb : body δ' s1 with
      | nx δ2 s2 =>
        rw [qb] at post1
        exact fun σ3 H3 ι3 F3 g3 R3 E3 => ⟨ι3, F3, δ2, s2, R3, E3, post1.mono g3⟩
      | ct δ2 s2 =>
        rw [qb] at post1
        exact fun σ3 H3 ι3 F3 g3 R3 E3 => ⟨ι3, F3, δ2, s2, R3, E3, post1.mono g3⟩
      | bk δ2 s2 => rw [qb] at post1; exact post1
      | rt d2 s2 => rw [qb] at post1; exact post1
      | ex c δ2 s2 => rw [qb] at post1; exact post1
      | stuck => rw [qb] at post1; exact post1.elim
theorem s_while {c : Expr} {body : List Stmt} {pos : Pos} {fc : DT} {g : DS} (n : Nat) (hc : PDt T X c fc) (hb : PDb T X body g) : PDs T X (.While c body [] pos) (sWh n fc g) := fun pn xe W tk ow => by
  obtain ⟨t0, p0, d0⟩ := hc pn xe W tk
  obtain ⟨t1, p1, d1⟩ := hb pn xe W tk ow
  exact ⟨_, ps_while (X := X.tr pn xe) ow p0 p1, den_while n d0 d1⟩
end
end Mp
/-! # MpE -/
namespace Mp
open PySem PySem.Spec L2

/-! ## canonical readings: one reading for all contexts -/
def canE {α β : Type} (T : Tb) (Rl : Hp → List Addr → α → β → Prop) (W : WX) (f : Env → Sto → Res α) : L2.St → Hp → (β → Hp → Prop) → Prop := fun σ H Q =>
  ∃ P ι F δ s, RelH T P ι F s H ∧ REnv T F ι δ σ ∧ Post T P Rl Q (fun c H' => W (.ref (T.ca c)) none σ H') F ι (f δ s)
def canT (T : Tb) (ws : List Nat) (f : DTg) : TG := fun v σ H Q => ∃ P ι F δ δ' s d, RelH T P ι F s H ∧ REnv T F ι δ σ ∧ Rp T F ι d v ∧ f d δ = some δ' ∧ ∀ σ', REnv T F ι δ' σ' → Off ws σ σ' → Q σ' H
section
variable {T : Tb} {X : Cx}
theorem PE.weak {e : Expr} {t t' : TE} (h : PE X e t) (k : ∀ σ H Q, t' σ H Q → t σ H Q) : PE X e t' := ⟨fun pins s σ H Q I q => h.run pins s σ H Q I (k _ _ _ q)⟩
theorem PT.weak {e : Expr} {t t' : TT} (h : PT X e t) (k : ∀ σ H Q, t' σ H Q → t σ H Q) : PT X e t' := ⟨fun pins s σ H Q I q => h.run pins s σ H Q I (k _ _ _ q)⟩
theorem PG.weak {e : Expr} {t t' : TG} (h : PG X e t) (k : ∀ v σ H Q, t' v σ H Q → t v σ H Q) : PG X e t' := ⟨fun pins s σ H v u Q I r q => h.run pins s σ H v u Q I r (k _ _ _ _ q)⟩
theorem DenG.can {α β : Type} {Rl : Hp → List Addr → α → β → Prop} {W : WX} {t : L2.St → Hp → (β → Hp → Prop) → Prop} {f : Env → Sto → Res α} (d : DenG T Rl W t f) {σ : L2.St} {H : Hp} {Q : β → Hp → Prop} (h : canE T Rl W f σ H Q) : t σ H Q := by
  obtain ⟨P, ι, F, δ, s, R, E, post⟩ := h
  exact d _ _ _ _ _ _ _ _ R E post
theorem DenT.can {ws : List Nat} {t : TG} {f : DTg} (d : DenT T ws t f) {v : V} {σ : L2.St} {H : Hp} {Q : L2.St → Hp → Prop} (h : canT T ws f v σ H Q) : t v σ H Q := by
  obtain ⟨P, ι, F, δ, δ', s, x, R, E, r, e, k⟩ := h
  exact d _ _ _ _ _ _ _ _ _ _ _ R E r e k
/-! ## list comprehensions -/
/-- a clause's tests -/
def PDts (T : Tb) (X : Cx) (ifs : List Expr) (f : DT) : Prop := ∃ t, PTs X ifs t ∧ DenG T eqR (fun _ _ _ _ => False) t f
def cYes : DT := fun _ s => .ok true s
def W0 : WX := fun _ _ _ _ => False
theorem ts_nil : PDts T X [] cYes := ⟨_, pts_nil, fun _ _ _ _ _ _ _ _ R _ post => post.here R rfl⟩
theorem ts_one {c : Expr} {f : DT} (h : PDt T X c f) : PDts T X [c] f := by
  obtain ⟨t, p, d⟩ := h X.pn X.xe (fun _ _ _ _ => False) takes0
  exact ⟨t, pts_one p, d⟩
theorem PTs.weak {e : List Expr} {t t' : TT} (h : PTs X e t) (k : ∀ σ H Q, t' σ H Q → t σ H Q) : PTs X e t' := ⟨fun pins s σ H Q I q => h.run pins s σ H Q I (k _ _ _ q)⟩
def wipeE (δ : Env) : List Nat → Env
  | [] => δ
  | v :: vs => (wipeE δ vs).set v none
theorem REnv.wipe {F : Hp} {ι : List Addr} {δ : Env} {σ : L2.St} (E : REnv T F ι δ σ) : ∀ vs : List Nat, REnv T F ι (wipeE δ vs) (L2.wipe σ vs)
  | [] => E
  | v :: vs => (E.wipe vs).unset v
def lcL (t : DTg) (c : DT) (e : DE) (δ : Env) : List D → List D → Sto → Res D
  | [], acc, s => .ok (.lst acc) s
  | d :: r, acc, s => match t d δ with
    | none => .stuck
    | some δ1 => match c δ1 s with
      | .ok true s2 => match e δ1 s2 with
        | .ok y s3 => if acc.length < lim then lcL t c e δ r (acc ++ [y]) s3 else .stuck
        | _ => .stuck
      | .ok false s2 => lcL t c e δ r acc s2
      | _ => .stuck
def dLc (it : DIt) (t : DTg) (c : DT) (e : DE) (vs : List Nat) : DE := fun δ s => (it δ s).bind fun ds s1 => lcL t c e (wipeE δ vs) ds [] s1
abbrev Blk (X : Cx) (scope : Scope) (s : Shared) (H : Hp) (C : Addr) (cl : List (Str × Addr)) (fp : List Addr) : Cx := X.blk s H scope (compEnvC scope cl C X.env) fp
theorem den_lc {W : WX} {wi : TI} {it : DIt} {ws vs : List Nat} {t : DTg} {c : DT} {e : DE} (hi : DenI T W wi it) (hs : ∀ i ∈ ws, i ∈ vs) :
    DenG T (Rp T) W (tLc wi (canT T ws t) (canE T eqR W0 c) (canE T (Rp T) W0 e) vs) (dLc it t c e vs) := fun σ H P ι F δ s Q R E post => by
  show wi σ H _
  refine den_then hi R E post fun ds J H1 ι1 F1 s1 g1 R1 E1 w post1 => fun L hL => ?_
  have hPL : P L = none := R1.freeP hL
  refine lc_it w (fun i H' => ∃ ι' F' s' acc vacc, Grow F1 ι1 F' ι' ∧ RelH T (upd P L (.lst vacc)) ι' F' s' H' ∧ Rps T F' ι' acc vacc ∧
      Post T P (Rp T) Q (fun c H' => W (.ref (T.ca c)) none σ H') F' ι' (lcL t c e (wipeE δ vs) (ds.drop i) acc s'))
    ⟨ι1, F1, s1, [], [], Grow.refl _ _, R1.newP hL _, .nil, by simpa using post1⟩ ?_ ?_ ?_
  · rintro i H' _ ⟨ι', F', s', acc, vacc, g', R', _, _⟩
    exact fun a o h => R'.sub _ _ (g'.1 _ _ h)
  · rintro i x H' H2 hi' ⟨ι', F', s', acc, vacc, g', R', ra, post'⟩ ⟨d, hd, y⟩
    obtain ⟨F2, g2, R2, r2⟩ := item_ok g' R' y
    rw [drop_get hd] at post'
    unfold lcL at post'
    have Ew : REnv T F2 ι' (wipeE δ vs) (L2.wipe σ vs) := ((E1.mono g').mono g2).wipe vs
    cases q : t d (wipeE δ vs) with
    | none => rw [q] at post'; exact post'.elim
    | some δ1 =>
      rw [q] at post'
      dsimp only at post'
      refine ⟨_, ι', F2, _, δ1, s', d, R2, Ew, r2, q, fun σ2 E2 o2 => ⟨o2.wipe hs |>.trans ?_, ?_⟩⟩
      · refine List.ext_getElem? fun j => ?_
        rw [wipe_at, wipe_at, wipe_length]
        by_cases c : j ∈ vs ∧ j < σ.length
        · rw [if_pos c, if_pos c]
        · rw [if_neg c, if_neg c]
      · refine ⟨_, ι', F2, δ1, s', R2, E2, ?_⟩
        cases qc : c δ1 s' with
        | stuck => rw [qc] at post'; exact post'.elim
        | exc k s2 => rw [qc] at post'; exact post'.elim
        | ok b s2 =>
          rw [qc] at post'
          intro b' H3 ι3 F3 g3 R3 eb
          cases eb
          cases b with
          | false =>
            rw [if_neg Bool.false_ne_true]
            exact ⟨ι3, F3, s2, acc, vacc, (g'.trans g2).trans g3, R3, ra.mono (g2.trans g3), post'.mono (g2.trans g3)⟩
          | true =>
            rw [if_pos rfl]
            refine ⟨_, ι3, F3, δ1, s2, R3, E2.mono g3, ?_⟩
            dsimp only at post'
            cases qe : e δ1 s2 with
            | stuck => rw [qe] at post'; exact post'.elim
            | exc k s3 => rw [qe] at post'; exact post'.elim
            | ok z s3 =>
              rw [qe] at post'
              intro v H4 ι4 F4 g4 R4 rv
              dsimp only at post'
              have ra' := ra.mono ((g2.trans g3).trans g4)
              split at post'
              · rename_i hl
                refine ⟨vacc, R4.pro _ _ upd_same, by rw [← ra.len]; exact lim_lt (Nat.le_of_lt hl), ι4, F4, s3, acc ++ [z], vacc ++ [v], ((g'.trans g2).trans g3).trans g4, ?_, ra'.app (.cons rv .nil), post'.mono ((g2.trans g3).trans g4)⟩
                have := R4.setP (p := L) upd_same (.lst (vacc ++ [v]))
                rw [upd_upd] at this
                exact this
              · exact post'.elim
  · rintro H' ⟨ι', F', s', acc, vacc, g', R', ra, post'⟩
    rw [List.drop_length] at post'
    have R2 := R'.thaw hPL
    have gr : Grow F' ι' (upd F' L (.lst vacc)) ι' := grow_new (R'.dis L _ upd_same) _
    refine post' (.ref L) H' ι' _ gr R2 ?_
    unfold Rp
    exact ⟨L, vacc, rfl, upd_same, ra.mono gr⟩
theorem d_lc {elt tg iter : Expr} {ifs : List Expr} {scope : Scope} {own : List (Str × Nat)} {pos : Pos} {it : DIt} {ws : List Nat} {t : DTg} {c : DT} {e : DE} (hN : X.N.Nodup) (hi : PDi T X tg iter it) (ok : BlkOk X.N X.env.scope scope own)
    (hg : ∀ (s : Shared) (H : Hp) (C : Addr) (cl : List (Str × Addr)) (fp : List Addr), PDg T (Blk X scope s H C cl fp) tg ws t) (ht : ∀ (s : Shared) (H : Hp) (C : Addr) (cl : List (Str × Addr)) (fp : List Addr), PDts T (Blk X scope s H C cl fp) ifs c)
    (he : ∀ (s : Shared) (H : Hp) (C : Addr) (cl : List (Str × Addr)) (fp : List Addr), PDe T (Blk X scope s H C cl fp) elt e) (hs : ∀ i ∈ ws, i ∈ own.map (·.2) := by decide) (hf : ∀ x, foldedSetIterable iter X.env x = pure x := by intro _; rfl) (hc : X.calm = true := by rfl) :
    PDe T X (.ListComp elt [⟨tg, iter, ifs, 0⟩] scope pos) (dLc it t c e (own.map (·.2))) := fun pn xe W tk => by
  obtain ⟨wi, p1, d1⟩ := hi pn xe W tk
  refine ⟨_, pe_lc (X := X.tr pn xe) (own := own) hc hN p1 ok (g := canT T ws t) (tt := canE T eqR W0 c) (te := canE T (Rp T) W0 e) (fun s H C cl fp => ?_) (fun s H C cl fp => ?_) (fun s H C cl fp => ?_) hf, den_lc d1 hs⟩
  · obtain ⟨g, p, d⟩ := hg s H C cl fp [] (fun _ _ => False)
    exact PG.weak p fun v σ H Q q => d.can q
  · obtain ⟨g, p, d⟩ := ht s H C cl fp
    exact PTs.weak p fun σ H Q q => d.can q
  · obtain ⟨g, p, d⟩ := he s H C cl fp [] (fun _ _ => False) W0 takes0
    exact PE.weak p fun σ H Q q => d.can q
theorem s_setLc {elt tg iter : Expr} {ifs : List Expr} {scope : Scope} {own : List (Str × Nat)} {pos spos py : Pos} {y : Str} {it : DIt} {ws : List Nat} {t : DTg} {c : DT} {e : DE} (i : Nat) (hN : X.N.Nodup) (hi : PDi T X tg iter it) (ok : BlkOk X.N X.env.scope scope own)
    (hg : ∀ (s : Shared) (H : Hp) (C : Addr) (cl : List (Str × Addr)) (fp : List Addr), PDg T (Blk X scope s H C cl fp) tg ws t) (ht : ∀ (s : Shared) (H : Hp) (C : Addr) (cl : List (Str × Addr)) (fp : List Addr), PDts T (Blk X scope s H C cl fp) ifs c)
    (he : ∀ (s : Shared) (H : Hp) (C : Addr) (cl : List (Str × Addr)) (fp : List Addr), PDe T (Blk X scope s H C cl fp) elt e) (hsw : swapsWith (.ListComp elt [⟨tg, iter, ifs, 0⟩] scope pos) (some (.Name y py)) spos.line X.env = pure true)
    (hy : X.N[i]? = some y := by rfl) (hyl : X.env.scope.names.lookup y = some .local := by rfl) (hs : ∀ i ∈ ws, i ∈ own.map (·.2) := by decide) (hf : ∀ x, foldedSetIterable iter X.env x = pure x := by intro _; rfl) (hc : X.calm = true := by rfl) :
    PDs T X (.Assign [.Name y py] (.ListComp elt [⟨tg, iter, ifs, 0⟩] scope pos) spos) (sSet i (dLc it t c e (own.map (·.2)))) := fun pn xe W tk _ => by
  obtain ⟨wi, p1, d1⟩ := hi pn xe W tk
  refine ⟨_, ps_setLc (X := X.tr pn xe) (i := i) (own := own) hc hN hy hyl hsw p1 ok (g := canT T ws t) (tt := canE T eqR W0 c) (te := canE T (Rp T) W0 e) (fun s H C cl fp => ?_) (fun s H C cl fp => ?_) (fun s H C cl fp => ?_) hf, fun En σ H P ι F δ s R E post => ?_⟩
  · obtain ⟨g, p, d⟩ := hg s H C cl fp [] (fun _ _ => False)
    exact PG.weak p fun v σ H Q q => d.can q
  · obtain ⟨g, p, d⟩ := ht s H C cl fp
    exact PTs.weak p fun σ H Q q => d.can q
  · obtain ⟨g, p, d⟩ := he s H C cl fp [] (fun _ _ => False) W0 takes0
    exact PE.weak p fun σ H Q q => d.can q
  · have dl : DenG T (Rp T) W _ _ := den_lc (T := T) (c := c) (e := e) (t := t) d1 hs
    show tLc wi (canT T ws t) (canE T eqR W0 c) (canE T (Rp T) W0 e) (own.map (·.2)) σ H _
    refine dens_then (t := tLc wi (canT T ws t) (canE T eqR W0 c) (canE T (Rp T) W0 e) (own.map (·.2))) dl R E post fun x v H1 ι1 F1 s1 g R1 E1 r1 post1 => ?_
    exact post1 _ H1 ι1 F1 (Grow.refl _ _) R1 (E1.set r1 i)
end

/-! ## functions -/
mutual
def below (n : Nat) : D → Bool
  | .loc m => decide (m < n)
  | .tup xs => belows n xs
  | .lst xs => belows n xs
  | .dct _ xs => belows n xs
  | .obj _ _ xs => belows n xs
  | _ => true
def belows (n : Nat) : List D → Bool
  | [] => true
  | x :: xs => below n x && belows n xs
end
def Cell.below (n : Nat) : Cell → Bool
  | .dead => true
  | .lst xs => belows n xs
  | .dct _ xs => belows n xs
  | .obj _ _ xs => belows n xs
/-- what a call leaves: its own cells go -/
def cut (n : Nat) (d : D) (s : Sto) : Res D := if s.length = n then .ok d s else if (decide (n ≤ s.length) && (below n d && (s.take n).all (Cell.below n))) = true then .ok d (s.take n) else .ok d s
def cutX (n : Nat) (c : Nat) (s : Sto) : Res D := if s.length = n then .exc c s else if (decide (n ≤ s.length) && (s.take n).all (Cell.below n)) = true then .exc c (s.take n) else .stuck
section
variable {T : Tb}
mutual
theorem Rp.take {F : Hp} {ι : List Addr} {n : Nat} : ∀ {d : D} {v : V}, Rp T F ι d v → below n d = true → Rp T F (ι.take n) d v
  | .non, _, h, _ => by unfold Rp at h ⊢; exact h
  | .bl _, _, h, _ => by unfold Rp at h ⊢; exact h
  | .int _, _, h, _ => by unfold Rp at h ⊢; exact h
  | .str _, _, h, _ => by unfold Rp at h ⊢; exact h
  | .tup xs, v, h, b => by
    unfold Rp at h ⊢
    obtain ⟨a, vs, e, q, r⟩ := h
    exact ⟨a, vs, e, q, Rps.takeI r b⟩
  | .lst xs, v, h, b => by
    unfold Rp at h ⊢
    obtain ⟨a, vs, e, q, r⟩ := h
    exact ⟨a, vs, e, q, Rps.takeI r b⟩
  | .scr ns, v, h, _ => by unfold Rp at h ⊢; exact h
  | .dct ks xs, v, h, b => by
    unfold Rp at h ⊢
    obtain ⟨a, kvs, e, q, k, r⟩ := h
    exact ⟨a, kvs, e, q, k, Rps.takeI r b⟩
  | .obj c ns xs, v, h, b => by
    unfold Rp at h ⊢
    obtain ⟨a, dx, fs, e, q, k, r⟩ := h
    exact ⟨a, dx, fs, e, q, k, Rps.takeI r b⟩
  | .loc m, v, h, b => by
    unfold Rp at h ⊢
    obtain ⟨a, q, e⟩ := h
    have hm : m < n := of_decide_eq_true b
    exact ⟨a, by rw [List.getElem?_take_of_lt hm]; exact q, e⟩
  | .exc c, v, h, _ => by unfold Rp at h ⊢; exact h
  | .cls _, _, h, _ => by unfold Rp at h ⊢; exact h
  | .ty _, _, h, _ => by unfold Rp at h ⊢; exact h
theorem Rps.takeI {F : Hp} {ι : List Addr} {n : Nat} : ∀ {ds : List D} {vs : List V}, Rps T F ι ds vs → belows n ds = true → Rps T F (ι.take n) ds vs
  | [], _, h, _ => by unfold Rps at h ⊢; exact h
  | x :: xs, vs, h, b => by
    unfold Rps at h ⊢
    obtain ⟨v, r, e, p, q⟩ := h
    have b' : (below n x && belows n xs) = true := b
    rw [Bool.and_eq_true] at b'
    exact ⟨v, r, e, Rp.take p b'.1, Rps.takeI q b'.2⟩
end
theorem RelH.cut {P : Hp} {ι : List Addr} {F : Hp} {s : Sto} {H : Hp} {n : Nat} (R : RelH T P ι F s H) (hb : (s.take n).all (Cell.below n) = true) : RelH T P (ι.take n) F (s.take n) H := by
  have lt : ∀ {m : Nat} {c : Cell}, (s.take n)[m]? = some c → m < n ∧ s[m]? = some c := fun {m c} h => by
    have h1 := (List.getElem?_eq_some_iff.mp h).1
    rw [List.length_take] at h1
    have h2 : m < n := by omega
    exact ⟨h2, by rw [List.getElem?_take_of_lt h2] at h; exact h⟩
  have ltI : ∀ {m : Nat} {a : Addr}, (ι.take n)[m]? = some a → ι[m]? = some a := fun {m a} h => by
    have h1 := (List.getElem?_eq_some_iff.mp h).1
    rw [List.length_take] at h1
    rw [List.getElem?_take_of_lt (by omega)] at h
    exact h
  refine ⟨R.sub, R.pro, R.dis, by rw [List.length_take, List.length_take, R.len], fun m c a h1 h2 => ?_, fun m c a h1 l h2 => R.npr m c a (lt h1).2 l (ltI h2), fun m k c c' a h1 h2 l1 l2 h3 h4 => R.nod m k c c' a (lt h1).2 (lt h2).2 l1 l2 (ltI h3) (ltI h4)⟩
  have hc := R.cell m c a (lt h1).2 (ltI h2)
  have hbc : c.below n = true := List.all_eq_true.mp hb c (List.mem_of_getElem? h1)
  cases c with
  | dead => trivial
  | lst xs =>
    obtain ⟨e1, vs, e2, e3⟩ := hc
    exact ⟨e1, vs, e2, e3.takeI hbc⟩
  | dct ks xs =>
    obtain ⟨e1, vs, e2, e3, e4⟩ := hc
    exact ⟨e1, vs, e2, e3, e4.takeI hbc⟩
  | obj k ns xs =>
    obtain ⟨e1, dx, vs, e2, e3, e4⟩ := hc
    exact ⟨e1, dx, vs, e2, e3, e4.takeI hbc⟩
/-- the promise of a def that does what φ tells -/
def spD (T : Tb) (n : Nat) (φ : List D → Sto → Res D) : Sp := fun vs H Q E => vs.length = n ∧ ∃ P ι F s ds, RelH T P ι F s H ∧ Rps T F ι ds vs ∧ Post T P (Rp T) Q (fun c H' => E (.ref (T.ca c)) none H') F ι (φ ds s)
def finO (n : Nat) : Out → Res D
  | .rt d s => cut n d s
  | .nx _ s => cut n .non s
  | .ex c _ s => cutX n c s
  | _ => .stuck
/-- a def: N names, n of them parameters -/
def mkF (N n : Nat) (g : DS) : List D → Sto → Res D := fun ds s => if ds.length = n then finO s.length (g (ds.map some ++ List.replicate (N - n) none) s) else .stuck
theorem takeG {F F' : Hp} {ι ι' : List Addr} {n : Nat} (g : Grow F ι F' ι') (h : ι.length = n) : Grow F ι F' (ι'.take n) := by
  obtain ⟨g1, m, rfl⟩ := g
  refine ⟨g1, [], ?_⟩
  rw [List.append_nil, List.take_append_of_le_length (by omega), List.take_of_length_le (by omega)]
theorem fin_ok {P : Hp} {ι : List Addr} {F : Hp} {s : Sto} {H : Hp} {Q : VK} {E : XK} {W : WX} {o : Out} (hW : ∀ c d σ H, E c d H → W c d σ H) (R : RelH T P ι F s H) (post : Post T P (Rp T) Q (fun c H' => E (.ref (T.ca c)) none H') F ι (finO s.length o)) :
    PostS T P { nx := fun _ H' => Q .non H', rt := Q } W F ι o := by
  have one : ∀ d s', Post T P (Rp T) Q (fun c H' => E (.ref (T.ca c)) none H') F ι (cut s.length d s') → ∀ v H' ι' F', Grow F ι F' ι' → RelH T P ι' F' s' H' → Rp T F' ι' d v → Q v H' := by
    intro d s' p v H' ι' F' g R' r
    unfold Mp.cut at p
    split at p
    · exact p v H' ι' F' g R' r
    · split at p
      · rename_i hb
        simp only [Bool.and_eq_true, decide_eq_true_eq] at hb
        exact p v H' _ F' (takeG g R.len) (R'.cut hb.2.2) (r.take hb.2.1)
      · exact p v H' ι' F' g R' r
  cases o with
  | rt d s' => exact one d s' post
  | nx δ s' => exact fun σ' H' ι' F' g R' _ => one .non s' post .non H' ι' F' g R' (by unfold Rp; rfl)
  | bk δ s' => exact post.elim
  | ct δ s' => exact post.elim
  | stuck => exact post.elim
  | ex c δ s' =>
    intro σ' H' ι' F' g R' _
    refine hW _ _ _ _ ?_
    have post' : Post T P (Rp T) Q (fun c H' => E (.ref (T.ca c)) none H') F ι (cutX s.length c s') := post
    unfold cutX at post'
    split at post'
    · exact post' H' ι' F' g R'
    · split at post'
      · rename_i hb
        simp only [Bool.and_eq_true, decide_eq_true_eq] at hb
        exact post' H' _ F' (takeG g R.len) (R'.cut hb.2)
      · exact post'.elim
theorem start_env {F : Hp} {ι : List Addr} {N : List Str} {ds : List D} {vs : List V} {n : Nat} (r : Rps T F ι ds vs) (hn : ds.length = n) : REnv T F ι (ds.map some ++ List.replicate (N.length - n) none) (L2.start N vs) := by
  have hl := r.len
  unfold L2.start
  refine ⟨by simp [hl]; omega, fun i d h => ?_⟩
  by_cases hi : i < ds.length
  · rw [List.getElem?_append_left (by simpa using hi), List.getElem?_map] at h
    cases e : ds[i]? with
    | none => rw [e] at h; cases h
    | some d' =>
      rw [e] at h
      cases h
      obtain ⟨v, h1, h2⟩ := r.get e
      refine ⟨v, ?_, h2⟩
      rw [List.getElem?_append_left (by simp; omega), List.getElem?_map, h1]
      rfl
  · rw [List.getElem?_append_right (by simpa using hi), List.getElem?_replicate] at h
    split at h <;> cases h
section
variable {P : Program} {w : World} {mg : Str → Option Value} {base : Heap}
theorem fn_d {x qual : Str} {params : Arguments} {body : List Stmt} {scope : Scope} {dvs : List V} {kws : List (Str × V)} {f : Addr} {fd : FuncData} {N ps : List Str} {k : Nat} {g : DS} (F : FunD T.K x qual params body scope dvs kws f fd) (Sc : FnScope N ps scope)
    (h : ∀ (cdv : Value) (A : Around) (outer : List PySem.Env) (s : Shared) (H : Hp) (E : XK), Room k (A.deeper (PyProof.Rows.envOfC qual scope s.heap.objs.size f cdv)) → PDb T (cxOf (L2.CX P w) P w T.K mg base N qual scope f cdv A outer s H E) body g) :
    FnOk P w T.K mg base (L2.CX P w) (k + 1) f fd ps (spD T ps.length (mkF N.length ps.length g)) := by
  refine F.ok Sc (fun vs H Q E h => h.1) fun cdv A outer s H vs Q E hr sp => ?_
  obtain ⟨hl, P0, ι, F0, st, ds, R, r, post⟩ := sp
  have tk : Takes (cxOf (L2.CX P w) P w T.K mg base N qual scope f cdv A outer s H E) (fun cls d _ H => E cls d H) := takes_of rfl rfl rfl rfl
  obtain ⟨t, p, d⟩ := h cdv A outer s H E hr _ _ _ tk (passes_of rfl)
  refine ⟨t, p, ?_⟩
  unfold mkF at post
  split at post
  · rename_i hd
    exact d _ _ _ _ _ _ _ _ R (start_env r hd) (fin_ok (fun _ _ _ _ h => h) R post)
  · exact post.elim
/-- a def that may be called by its name -/
structure Cl (T : Tb) (P : Program) (w : World) (mg : Str → Option Value) (base : Heap) (x : Str) (k n : Nat) (φ : List D → Sto → Res D) : Prop where
  ex : ∃ (f : Addr) (fd : FuncData) (ps : List Str), mg x = some (.ref f) ∧ PySem.W.keepIn T.K (.ref f) = true ∧ Binds T.K fd ps [] ∧ FnOk P w T.K mg base (L2.CX P w) k f fd ps (spD T n φ)
theorem Cl.up {x : Str} {j k n : Nat} {φ : List D → Sto → Res D} (c : Cl T P w mg base x j n φ) (h : j ≤ k) : Cl T P w mg base x k n φ := by
  obtain ⟨f, fd, ps, h1, h2, h3, h4⟩ := c.ex
  exact ⟨f, fd, ps, h1, h2, h3, h4.mono h⟩
end
variable {X : Cx}
def dCall (φ : List D → Sto → Res D) (fa : DA) : DE := fun δ s => (fa δ s).bind fun ds s1 => φ ds s1
theorem d_call {x : Str} {p pos : Pos} {e : Expr} {es : List Expr} {k j n : Nat} {φ : List D → Sto → Res D} {fa : DA} (c : Cl T X.prog X.w X.mg X.base x k n φ) (ha : PDa T X (e :: es) fa) (hr : Room j X.A) (hk : k ≤ j := by decide) (hn : (e :: es).length = n := by rfl) (hg : Gl X x := by rfl) (hK : X.K = T.K := by rfl)
    (hdb : (x == ("__debug__" : Str)) = false := by decide) (he : starEach (e :: es) X.env = (false, eval e X.env) :: starEach es X.env := by rfl) (hpl : (backTo pos (starEach es X.env)).any (·.1) = false := by rfl) :
    PDe T X (.Call (.Name x p) (e :: es) [] pos) (dCall φ fa) := fun pn xe W tk => by
  obtain ⟨t1, p1, d1⟩ := ha pn xe W tk
  obtain ⟨f, fd, ps, h1, h2, h3, h4⟩ := c.ex
  rw [← hK] at h2 h3 h4
  refine ⟨_, pe_callS (X := X.tr pn xe) h4 (hr.mono hk) hg h1 h2 h3 (fun σ => passAt tk σ) p1 hdb he hpl, fun σ H P ι F δ s Q R E post => ?_⟩
  show t1 σ H _
  refine den_then d1 R E post fun ds vs H1 ι1 F1 s1 g R1 E1 r1 post1 => ?_
  exact ⟨r1.2.trans hn, P, ι1, F1, s1, ds, R1, r1.1, post1⟩
end
end Mp
/-! # MpF -/
namespace Mp
open PySem PySem.Spec L2
/-! ## built-ins called by name -/
abbrev DB := List D → Sto → Res D
def dBi (op : DB) (fa : DA) : DE := fun δ s => (fa δ s).bind fun ds s1 => op ds s1
def DenB (T : Tb) (r : List V → Hp → VK → Prop) (op : DB) : Prop := ∀ ds vs H P ι F s Q E, RelH T P ι F s H → Rps T F ι ds vs → Post T P (Rp T) Q E F ι (op ds s) → r vs H Q
section
variable {T : Tb} {X : Cx}
theorem den_bi {W : WX} {r : List V → Hp → VK → Prop} {op : DB} {n : Nat} {t : TA} {fa : DA} (hb : DenB T r op) (d : DenG T (RpsN T n) W t fa) : DenG T (Rp T) W (tCB r t) (dBi op fa) := fun σ H P ι F δ s Q R E post => by
  show t σ H _
  refine den_then d R E post fun ds vs H1 ι1 F1 s1 g R1 E1 r1 post1 => ?_
  exact hb _ _ _ _ _ _ _ _ _ R1 r1.1 post1
theorem d_callB {x : Str} {p pos : Pos} {e : Expr} {es : List Expr} {id : String} {r : List V → Hp → VK → Prop} {op : DB} {fa : DA} (hc : ∀ pn xe, CallR (X.tr pn xe) (.builtin id) r) (hb : DenB T r op) (hm : X.mg x = none) (hv : bootBuiltins x = some (.builtin id)) (ha : PDa T X (e :: es) fa)
    (hg : Gl X x := by rfl) (hn : x ≠ "__name__" := by decide) (hdb : (x == ("__debug__" : Str)) = false := by decide)
    (he : starEach (e :: es) X.env = (false, eval e X.env) :: starEach es X.env := by rfl) (hpl : (backTo pos (starEach es X.env)).any (·.1) = false := by rfl) : PDe T X (.Call (.Name x p) (e :: es) [] pos) (dBi op fa) := fun pn xe W tk => by
  obtain ⟨t1, p1, d1⟩ := ha pn xe W tk
  exact ⟨_, pe_callB (X := X.tr pn xe) (hc pn xe) hg hm hv p1 hn hdb he hpl, den_bi hb d1⟩
theorem d_callT {x : Str} {p pos : Pos} {e : Expr} {es : List Expr} {id : String} {r : List V → Hp → VK → Prop} {op : DB} {fa : DA} (hc : ∀ pn xe, CallR (X.tr pn xe) (.type id) r) (hb : DenB T r op) (hm : X.mg x = none) (hv : bootBuiltins x = some (.type id)) (ha : PDa T X (e :: es) fa)
    (hg : Gl X x := by rfl) (hn : x ≠ "__name__" := by decide) (hdb : (x == ("__debug__" : Str)) = false := by decide)
    (he : starEach (e :: es) X.env = (false, eval e X.env) :: starEach es X.env := by rfl) (hpl : (backTo pos (starEach es X.env)).any (·.1) = false := by rfl) : PDe T X (.Call (.Name x p) (e :: es) [] pos) (dBi op fa) := fun pn xe W tk => by
  obtain ⟨t1, p1, d1⟩ := ha pn xe W tk
  exact ⟨_, pe_callTy (X := X.tr pn xe) (hc pn xe) hg hm hv p1 hn hdb he hpl, den_bi hb d1⟩
/-! ### len -/
def bLen : DB
  | [.str z], s => if z.length ≤ lim then .ok (.int z.length) s else .stuck
  | [x], s => match (lqOf s x).or (tpOf x) with
    | some xs => .ok (.int xs.length) s
    | none => .stuck
  | _, _ => .stuck
def rLen (K : PySem.W.Frag) : List V → Hp → VK → Prop := fun xs H Q => ∃ x n, xs = [x] ∧ LenV K x H n ∧ Q (.int n) H
theorem db_len : DenB T (rLen T.K) bLen := by
  intro ds vs H P ι F s Q E R r post
  unfold bLen at post
  split at post
  · obtain ⟨v, rfl, h1⟩ := rps1 r
    unfold Rp at h1
    subst h1
    split at post
    · rename_i hl
      refine ⟨_, _, rfl, ⟨by rw [S_len]; exact lim_le hl, rfl⟩, ?_⟩
      rw [S_len]
      exact post.here R (by unfold Rp; rfl)
    · exact post.elim
  · obtain ⟨v, rfl, h1⟩ := rps1 r
    split at post
    · rename_i xs h
      obtain ⟨a, us, rfl, h2, h3⟩ := lqtp_of R h1 h
      refine ⟨_, us.length, rfl, ?_, ?_⟩
      · rcases h2 with h2 | h2
        · exact .inl ⟨us, h2, rfl⟩
        · exact .inr ⟨us, h2, rfl⟩
      · rw [← h3.len]
        exact post.here R (by unfold Rp; rfl)
    · exact post.elim
  · exact post.elim
/-! ### any, all of truth values -/
def boolsOf : List D → Option (List Bool)
  | [] => some []
  | .bl b :: r => (boolsOf r).map (b :: ·)
  | _ => none
theorem bools_ok {F : Hp} {ι : List Addr} : ∀ {ds : List D} {vs : List V} {bs : List Bool}, Rps T F ι ds vs → boolsOf ds = some bs → vs = bs.map V.bl
  | [], vs, bs, r, e => by unfold Rps at r; subst r; cases e; rfl
  | d :: ds, vs, bs, r, e => by
    unfold Rps at r
    obtain ⟨v, us, rfl, h1, h2⟩ := r
    cases d with
    | bl b =>
      have e' : (boolsOf ds).map (b :: ·) = some bs := e
      cases q : boolsOf ds with
      | none => rw [q] at e'; cases e'
      | some cs =>
        rw [q] at e'
        cases e'
        unfold Rp at h1
        rw [h1, bools_ok h2 q]
        rfl
    | _ => cases e
def bAnyAll (f : List Bool → Bool) : DB
  | [x], s => match lqOf s x with
    | some xs => match boolsOf xs with
      | some bs => .ok (.bl (f bs)) s
      | none => .stuck
    | none => .stuck
  | _, _ => .stuck
abbrev bAny : DB := bAnyAll (·.any id)
abbrev bAll : DB := bAnyAll (·.all id)
theorem db_any : DenB T (rAny T.K) bAny := by
  intro ds vs H P ι F s Q E R r post
  unfold bAny bAnyAll at post
  split at post
  · obtain ⟨v, rfl, h1⟩ := rps1 r
    split at post
    · rename_i xs h
      split at post
      · rename_i bs hb
        obtain ⟨a, us, rfl, h2, h3⟩ := lq_of R h1 h
        rw [bools_ok h3 hb] at h2
        exact ⟨a, bs, rfl, h2, post.here R (by unfold Rp; rfl)⟩
      · exact post.elim
    · exact post.elim
  · exact post.elim
theorem db_all : DenB T (rAll T.K) bAll := by
  intro ds vs H P ι F s Q E R r post
  unfold bAll bAnyAll at post
  split at post
  · obtain ⟨v, rfl, h1⟩ := rps1 r
    split at post
    · rename_i xs h
      split at post
      · rename_i bs hb
        obtain ⟨a, us, rfl, h2, h3⟩ := lq_of R h1 h
        rw [bools_ok h3 hb] at h2
        exact ⟨a, bs, rfl, h2, post.here R (by unfold Rp; rfl)⟩
      · exact post.elim
    · exact post.elim
  · exact post.elim
/-! ### max, min of two -/
def b2I (g : Int → Int → Int) : DB
  | [.int a, .int b], s => .ok (.int (g a b)) s
  | _, _ => .stuck
abbrev bMax2 : DB := b2I fun i j => if j > i then j else i
abbrev bMin2 : DB := b2I fun i j => if j < i then j else i
theorem db_2I {g : Int → Int → Int} : DenB T (fun xs H Q => ∃ i j, xs = [.int i, .int j] ∧ Q (.int (g i j)) H) (b2I g) := by
  intro ds vs H P ι F s Q E R r post
  unfold b2I at post
  split at post
  · obtain ⟨v, u, rfl, h1, h2⟩ := rps2 r
    unfold Rp at h1 h2
    exact ⟨_, _, by rw [h1, h2], post.here R (by unfold Rp; rfl)⟩
  · exact post.elim
/-! ### isinstance -/
def tyOf (s : Sto) : D → Option String
  | .non => some "NoneType"
  | .bl _ => some "bool"
  | .int _ => some "int"
  | .str _ => some "str"
  | .lst _ => some "list"
  | .tup _ => some "tuple"
  | .loc n => match s[n]? with
    | some (.lst _) => some "list"
    | some (.dct _ _) => some "dict"
    | _ => none
  | .dct _ _ => some "dict"
  | _ => none
theorem ty_ok {P : Hp} {ι : List Addr} {F : Hp} {s : Sto} {H : Hp} (R : RelH T P ι F s H) {d : D} {v : V} {t : String} (r : Rp T F ι d v) (h : tyOf s d = some t) : TyX T.K H v (.type t) := by
  cases d with
  | non => unfold Rp at r; subst r; cases h; exact .base .non
  | bl b => unfold Rp at r; subst r; cases h; exact .base (.bl b)
  | int b => unfold Rp at r; subst r; cases h; exact .base (.int b)
  | str b => unfold Rp at r; subst r; cases h; exact .base (.str _)
  | lst xs => unfold Rp at r; obtain ⟨a, vs, rfl, e, _⟩ := r; cases h; exact .base (.lst (R.sub _ _ e))
  | tup xs => unfold Rp at r; obtain ⟨a, vs, rfl, e, _⟩ := r; cases h; exact .base (.tup (R.sub _ _ e))
  | dct ks xs =>
    unfold Rp at r
    obtain ⟨a, kvs, rfl, e, _⟩ := r
    cases h
    rcases e with e | ⟨o, e⟩
    · exact .base (.dK (R.sub _ _ e))
    · exact .fDict (R.sub _ _ e)
  | loc n =>
    unfold Rp at r
    obtain ⟨a, e1, rfl⟩ := r
    unfold tyOf at h
    dsimp only at h
    cases q : s[n]? with
    | none => rw [q] at h; cases h
    | some c =>
      rw [q] at h
      cases c with
      | lst xs => cases h; obtain ⟨_, vs, e, _⟩ := R.cell n _ a q e1; exact .base (.lst e)
      | dct ks xs => cases h; obtain ⟨_, vs, e, _⟩ := R.cell n _ a q e1; exact .base (.dK e)
      | _ => cases h
  | _ => cases h
def bIsi : DB
  | [x, .ty n], s => match tyOf s x with
    | some t => match kitB t n with
      | some b => .ok (.bl b) s
      | none => .stuck
    | none => .stuck
  | _, _ => .stuck
theorem db_isi : DenB T (rIsi T.K) bIsi := by
  intro ds vs H P ι F s Q E R r post
  unfold bIsi at post
  split at post
  · obtain ⟨v, u, rfl, h1, h2⟩ := rps2 r
    split at post
    · rename_i t ht
      split at post
      · rename_i b hb
        unfold Rp at h2
        subst h2
        exact ⟨v, _, _, _, b, rfl, .ty _, ty_ok R h1 ht, kit_ty hb, post.here R (by unfold Rp; rfl)⟩
      · exact post.elim
    · exact post.elim
  · exact post.elim
end
/-! ## the end of a law -/
theorem law_end {T : Tb} {k : Nat} {φ : List D → Sto → Res D} {H : Hp} {a : Addr} {ns : List Int} (hO : Only H) (hS : SqL T.K H a (ns.map V.int)) (h : φ [.scr ns] [] = .ok (.bl true) []) :
    spD T 1 φ [.ref a] H (fun v _ => v = .bl true) fun _ _ _ => False := by
  have R : RelH T (fun _ => none) [] H [] H := by
    refine ⟨fun _ _ h => h, fun _ _ h => ?_, fun _ _ h => ?_, rfl, fun n c a h => ?_, fun n c a h => ?_, fun n m c c' a h => ?_⟩
    · cases h
    · cases h
    all_goals simp at h
  refine ⟨rfl, fun _ => none, [], H, [], [.scr ns], R, .cons (by unfold Rp; exact ⟨a, rfl, hS⟩) .nil, ?_⟩
  rw [h]
  intro v H' ι' F' g R r
  unfold Rp at r
  exact r
theorem cx_none {P : Program} {w : World} {H : Hp} {s s' : Shared} {e : Value} (h : L2.CX P w [] H s (fun _ _ _ => False) e s') : False := by
  obtain ⟨_, _, _, _, _, _, _, _, _, _, _, _, h⟩ := h
  exact h
theorem law_walks {l : PySem.W.OpenLaw} {k : Nat} {q : Program} {lo : List Str} {XP : (Str → Option Value) → Heap → Prop} {YP : World → Heap → Prop} {d : DefRec} {x : Str} (hm : l.most = some 63) (hdf : d.params.defaults = []) (room : Room k callerA)
    (F : ∀ (w : World) (mg : Str → Option Value) (fa : Addr) (h : Heap), YP w h → h.Ns mainGlobals mg → mg d.name = some (.ref fa) →
      ∃ (K : PySem.W.Frag) (fd : FuncData) (sp : Sp), K.In h ∧ (∀ (s : Shared) (u : Value), BindsTo s fd ⟨[u], []⟩ [(x, u)]) ∧
        (∀ (H : Hp) (a : Addr) (ns : List Int), ns.length ≤ 63 → Only H → SqL K H a (ns.map V.int) → sp [.ref a] H (fun v _ => v = .bl true) fun _ _ _ => False) ∧
        ∀ base : Heap, K.In base → base.Ns mainGlobals mg → FnOk l.prog w K mg base (L2.CX l.prog w) k fa fd [x] sp) :
    PySem.W.WalkO q lo XP YP l.row.toRowW d [] (fun f vs => PySem.call f vs) := by
  refine Att.attach_call hm hdf fun w sA sB mg mb fa o pm cd doc a vs ns G Y ho hd hcd hmg hobj hin hlen hg => ?_
  obtain ⟨K, fd, sp, KX, bi, pr, fn⟩ := F w mg fa _ Y G.T.g hmg
  exact law_call KX G.T.g G.T.b G.T.builtins G.T.nolimit hg hobj hin (Nat.le_trans hlen (by rw [sizeLine_eq]; decide)) room fn bi (fun H hO hS => pr H a ns hlen hO hS) fun H e s' z => cx_none z
end Mp
/-! # MpG -/
namespace Mp
open PySem PySem.Spec L2 PyProof.Rows
/-! ## the head's look, with one more Bool -/
abbrev AlE : Type := He.AlD × Bool
def obsE (fa : List He.Fa) (fn : List He.DefD) (ex : PySem.W.Frag → Bool) (K : PySem.W.Frag) : AlE := (He.obsD fa fn K, ex K)
structure SaysE (fa : List He.Fa) (fn : List He.DefD) (ex : PySem.W.Frag → Bool) (K : PySem.W.Frag) : Prop where
  d : He.SaysD fa fn K
  more : ex K = true
def obsEG (n : Nat) (fa : List He.Fa) (fn : List He.DefD) (ex : PySem.W.Frag → Bool) (g : Addr → Option Obj) : AlE := obsE fa fn ex (He.frG g (He.asD g n))
def hookE (n : Nat) (fa : List He.Fa) (fn : List He.DefD) (ex : PySem.W.Frag → Bool) : PySem.W.Hook where
  α := AlE
  obs := fun s => obsEG n fa fn ex s.heap.get?
  val := fun _ => (He.valD fn, true)
  says := fun _ h => ∃ K : PySem.W.Frag, K.In h ∧ SaysE fa fn ex K
  of := fun _ _ e => ⟨_, He.frG_in, congrArg (fun z : AlE => z.1) e, congrArg (fun z : AlE => z.2) e⟩
  keeps := fun _ _ _ ⟨K, hK, c⟩ k => ⟨K, PySem.W.Frag.In.keeps hK k, c⟩
theorem obsEG_eq {n : Nat} {fa : List He.Fa} {fn : List He.DefD} {ex : PySem.W.Frag → Bool} {g : Addr → Option Obj} {s : Shared} (h : ∀ a, g a = s.heap.get? a) : obsEG n fa fn ex g = (hookE n fa fn ex).obs s := by
  have e : g = s.heap.get? := funext h
  rw [e] <;> rfl
/-! ## the classes of exceptions: par.getD k k is k's parent (k itself where there is none) -/
def ancF (par : List Nat) : Nat → Nat → Nat → Bool
  | 0, k, c => k == c
  | n + 1, k, c => k == c || (par.getD k k != k && ancF par n (par.getD k k) c)
def ancO (par : List Nat) (k c : Nat) : Option Bool := if k < par.length ∧ c < par.length then some (ancF par par.length k c) else none
/-- n1: so many of them have no __init__ of their own -/
structure ExT (K : PySem.W.Frag) (ca : Nat → Addr) (par : List Nat) (n1 : Nat) : Prop where
  exm : ∀ k c b, ancO par k c = some b → PySem.W.exmOne K (.ref (ca k)) (.ref (ca c)) = some b
  kit : ∀ k c b, ancO par k c = some b → PySem.W.kitOne K (.ref (ca k)) (.ref (ca c)) = some b
  kiv : ∀ k, k < par.length → PySem.W.kitOne K (.ref (ca k)) (.type "ValueError") = some true
  exc : ∀ k, k < par.length → ExcC K (ca k)
  mkx : ∀ k, k < n1 → PySem.W.excIn K (ca k) He.veBase "ValueError.__new__" = true ∧ PySem.W.keepIn K (.ref (ca k)) = true ∧ PySem.W.subIn K (.ref (ca k)) (.type "BaseException") = some true ∧ PySem.W.typeIn K (.ref (ca k)) = some (.type "type")
def exc1 (K : PySem.W.Frag) (D : Addr) : Bool :=
  decide (PySem.W.findIn K (.ref D) "__getattribute__" = some (some (.builtin "BaseException.__getattribute__"))) && (decide (PySem.W.findIn K (.ref D) "__getattr__" = some none) && (decide (PySem.W.subIn K (.ref D) (.type "BaseException") = some true) && (PySem.W.hasDictIn K D &&
  (decide (PySem.W.findIn K (.ref D) "__class__" = some (some (.builtin "object.__class__"))) && (decide (PySem.W.specialIn K (.builtin "object.__class__") "__get__" = some (some (.builtin "getset_descriptor.__get__"))) && (decide (PySem.W.takesIn K (.builtin "object.__class__") = some true) &&
  (decide (PySem.W.mroIn K D (.type "object") = some true) && decide (PySem.W.kitOne K (.ref D) (.type "ValueError") = some true))))))))
def mkx1 (K : PySem.W.Frag) (D : Addr) : Bool := PySem.W.excIn K D He.veBase "ValueError.__new__" && (PySem.W.keepIn K (.ref D) && (decide (PySem.W.subIn K (.ref D) (.type "BaseException") = some true) && decide (PySem.W.typeIn K (.ref D) = some (.type "type"))))
def exB (ca : PySem.W.Frag → Nat → Addr) (par : List Nat) (n1 : Nat) (K : PySem.W.Frag) : Bool := ((List.range n1).all fun k => mkx1 K (ca K k)) && (List.range par.length).all fun k => exc1 K (ca K k) && (List.range par.length).all fun c => decide (PySem.W.exmOne K (.ref (ca K k)) (.ref (ca K c)) = some (ancF par par.length k c)) && decide (PySem.W.kitOne K (.ref (ca K k)) (.ref (ca K c)) = some (ancF par par.length k c))
theorem exT_of {ca : PySem.W.Frag → Nat → Addr} {par : List Nat} {n1 : Nat} {K : PySem.W.Frag} (h0 : exB ca par n1 K = true) : ExT K (ca K) par n1 := by
  unfold exB at h0
  obtain ⟨hm, h⟩ := He.ba h0
  rw [List.all_eq_true] at h hm
  have one : ∀ k, k < par.length → exc1 K (ca K k) = true ∧ ∀ c, c < par.length → PySem.W.exmOne K (.ref (ca K k)) (.ref (ca K c)) = some (ancF par par.length k c) ∧ PySem.W.kitOne K (.ref (ca K k)) (.ref (ca K c)) = some (ancF par par.length k c) := fun k hk => by
    obtain ⟨h1, h2⟩ := He.ba (h k (List.mem_range.mpr hk))
    refine ⟨h1, fun c hc => ?_⟩
    rw [List.all_eq_true] at h2
    obtain ⟨h3, h4⟩ := He.ba (h2 c (List.mem_range.mpr hc))
    exact ⟨of_decide_eq_true h3, of_decide_eq_true h4⟩
  have two : ∀ k c b, ancO par k c = some b → k < par.length ∧ c < par.length ∧ ancF par par.length k c = b := fun k c b e => by
    unfold ancO at e
    split at e
    · rename_i hk
      exact ⟨hk.1, hk.2, Option.some.inj e⟩
    · cases e
  refine ⟨fun k c b e => ?_, fun k c b e => ?_, fun k hk => ?_, fun k hk => ?_, fun k hk => ?_⟩
  · obtain ⟨h1, h2, h3⟩ := two k c b e
    rw [← h3]; exact ((one k h1).2 c h2).1
  · obtain ⟨h1, h2, h3⟩ := two k c b e
    rw [← h3]; exact ((one k h1).2 c h2).2
  · have z := (one k hk).1
    unfold exc1 at z
    simp only [Bool.and_eq_true, decide_eq_true_eq] at z
    exact z.2.2.2.2.2.2.2.2
  · have z := (one k hk).1
    unfold exc1 at z
    simp only [Bool.and_eq_true, decide_eq_true_eq] at z
    obtain ⟨z1, z2, z3, z4, z5, z6, z7, z8, z9⟩ := z
    exact ⟨z1, z2, z3, z4, z5, z6, z7, z8⟩
  · have z := hm k (List.mem_range.mpr hk)
    unfold mkx1 at z
    simp only [Bool.and_eq_true, decide_eq_true_eq] at z
    exact z
/-! ## raise -/
def sRaise (c : Nat) : DS := fun δ s => .ex c δ s
section
variable {T : Tb} {X : Cx} {par : List Nat} {n1 : Nat}
theorem s_raise {x m : Str} {j : Nat} {p p2 pos pos' : Pos} (c : Nat) (x1 : ExT T.K T.ca par n1) (gC : X.mg x = some (.ref (T.ca c))) (hc : c < n1 := by decide) (hg : Gl X x := by rfl) (hdb : (x == ("__debug__" : Str)) = false := by decide) (hcalm : X.calm = true := by rfl) (hK : X.K = T.K := by rfl) :
    PDs T X (.Raise (some (.Call (.Name x p) [.Constant (.str m) j p2] [] pos)) none pos') (sRaise c) := fun pn xe W tk ow => by
  obtain ⟨h1, h2, h3, h4⟩ := x1.mkx c hc
  rw [← hK] at h1 h2 h3 h4
  refine ⟨_, ps_raise (X := X.tr pn xe) hcalm tk (pmk_own (X := X.tr pn xe) F.excBase_ValueError h1 gC h2 (raises_own h3 h4) hg hdb), fun En σ H P ι F δ s R E post => ?_⟩
  exact post σ H ι F (Grow.refl _ _) R E
end
/-! ## what the except suite holds is tracked -/
theorem Inv.track {X : Cx} {pins : List (Addr × Obj)} {σ : L2.St} {H : Hp} {s : Shared} {a : Addr} {cls : Value} {oe : Obj} {vs : Array Value} (I : Inv X pins σ H s) (ha : s.heap.get? a = some oe) (hz : Zc cls none oe) (hd : oe.data = .fields vs) (na : H a = none) (nL : a ≠ X.env.locals)
    (n0 : X.s_0.heap.get? a = none) (np : ∀ p ∈ X.pn ++ pins, p.1 ≠ a) : Inv X pins σ (upd H a (ExV cls a)) s := by
  have un : ∀ b, b ≠ a → upd H a (ExV cls a) b = H b := fun b h => upd_ne h
  refine ⟨I.ok, I.os, I.bare, ⟨I.base.keep, I.base.slot, fun b o e n hx => ?_, I.base.there, fun b xs e => ?_, fun b o u e => ?_, fun b ps e => ?_⟩, I.loc, I.cell, ?_, fun x c e => ?_, fun p hp => ?_, fun b u e => ?_, I.len⟩
  · rw [un b fun z => by subst z; rw [n0] at e; cases e]
    exact I.base.free b o e n hx
  · have q := I.base.tups b xs e
    rw [un b fun z => by subst z; rw [na] at q; cases q]
    exact q
  · have q := I.base.frzs b o u e
    rw [un b fun z => by subst z; rw [na] at q; cases q]
    exact q
  · obtain ⟨more, q⟩ := I.base.tbls b ps e
    rw [un b fun z => by subst z; rw [na] at q; cases q]
    exact ⟨more, q⟩
  · rw [un _ (Ne.symm nL)]
    exact I.free
  · rw [un c fun z => by
      subst z
      obtain ⟨v, o, ho, hd'⟩ := I.cell x c e
      rw [ha] at ho; cases ho
      rw [hd] at hd'; cases hd']
    exact I.freeC x c e
  · obtain ⟨e, n, ne, nf, d⟩ := I.pin p hp
    exact ⟨e, by rw [un _ (np p hp)]; exact n, ne, nf, d⟩
  · by_cases hb : b = a
    · subst hb
      rw [upd_same] at e
      cases e
      exact ⟨⟨oe, ha, hz, vs, hd⟩, ⟨oe, ha⟩, fun h1 h2 q k => by
        obtain ⟨o, q1, q2⟩ := q
        exact ⟨o, k o q1, q2⟩⟩
    · rw [un b hb] at e
      exact (I.hok b u e).stay (fun _ _ _ q => q) (fun c q => by rw [upd_ne (ne_of_none q na)]; exact q) fun c xs q => by rw [upd_ne (ne_of_none q na)]; exact q
/-- what the clause wishes of an exception of the body; i: the name's slot -/
def setO (i : Option Nat) (o : Option V) (σ : L2.St) : L2.St := match i with
  | some i => σ.set i o
  | none => σ
def wTr (K : PySem.W.Frag) (c : Value) (i : Option Nat) (ts : TS) (Wout : WX) (D : Ends) : WX := fun cls d σ H =>
  ∃ b, PySem.W.exmOne K cls c = some b ∧ (b = true → d = none ∧ ∀ a, H a = none → ts { nx := fun σ' H' => D.nx (setO i none σ') H', rt := D.rt, bk := fun σ' H' => D.bk (setO i none σ') H', ct := fun σ' H' => D.ct (setO i none σ') H' } (setO i (some (.ref a)) σ) (upd H a (ExV cls a))) ∧
    (b = false → Wout cls d σ H)
section
variable {X : Cx} {x n : Str} {c : Value} {i : Nat} {body suite : List Stmt} {b₀ : Stmt} {np pos pos' : Pos} {tb : WX → TS} {ts : TS} {Wout : WX}
theorem Inv.toSuite {pins : List (Addr × Obj)} {σ : L2.St} {H : Hp} {s : Shared} (I : Inv X pins σ H s) (a : Addr) : Inv (X.suite a (X.pn ++ pins)) [] σ H s :=
  ⟨I.ok.suite _ _, I.os, I.bare, I.base, I.loc, I.cell, I.free, I.freeC, fun p hp => I.pin p (by rw [List.append_nil] at hp; exact hp), I.hok, I.len⟩
theorem Inv.ofSuite {pins pn' : List (Addr × Obj)} {σ : L2.St} {H : Hp} {s : Shared} {a : Addr} (I : Inv (X.suite a (X.pn ++ pins)) pn' σ H s) (ok : X.Ok) : Inv X pins σ H s :=
  ⟨ok, I.os, I.bare, I.base, I.loc, I.cell, I.free, I.freeC, fun p hp => I.pin p (List.mem_append_left _ hp), I.hok, I.len⟩
theorem ps_tryT (hs : X.stack = X.env :: X.outer) (hf : X.env.frame = some X.env.locals) (hex : X.ex = []) (hN : X.N.Nodup) (hi : X.N[i]? = some n) (hln : X.env.kindOf n = some .local) (hc : Names X x c) (tk : Takes X Wout)
    (hb : ∀ (W : WX) (pn : List (Addr × Obj)) (xe : Value → Shared → Prop), Takes (X.tr pn xe) W → PassesOwn (model X.prog X.w) X.A X.env xe → PSs (X.tr pn xe) body (tb W))
    (hsu : ∀ (a : Addr) (pn : List (Addr × Obj)), PSs (X.suite a pn) (b₀ :: suite) ts) :
    PS X (.Try body [.ExceptHandler (some (.Name x np)) (some n) (b₀ :: suite) pos'] [] [] pos) (fun D σ H => tb (wTr X.K c (some i) ts Wout D) D σ H) := by
  refine ⟨fun pins s σ H D I h => ?_⟩
  have ok := I.ok
  have hfr : X.A.frames = some (X.env :: X.outer) := by rw [ok.frames, hs]
  have hloc : Loc X.env.scope n := .inl hln
  refine wpAny_Try_except ?_
  refine wpAny_mono ((hb (wTr X.K c (some i) ts Wout D) (X.pn ++ pins) (fun e s₁ => wpAny (model X.prog X.w) X.A (noteFrame e X.env) (fun _ s₂ => wpAny (model X.prog X.w) X.A (setFlight e none) (fun _ s₃ =>
    wpAny (model X.prog X.w) X.A (handleBy e X.env [.ExceptHandler (some (.Name x np)) (some n) (b₀ :: suite) pos']) (SP X pins D) X.xe s₃) X.xe s₂) X.xe s₁) (fun u s' xx => ?_) PassesOwn.looking).run [] s σ H D (I.toTry _) h) (fun f s1 hsp => ?_) (fun e s1 he => he)
  · obtain ⟨a, B, sI, pins', σ', H', cls, d, rfl, J', nb, up, sky, na, os, ag, b, hb1, hyes, hno⟩ := xx
    have J : Inv X pins σ' H' sI := J'.ofTry ok
    have sky' : Sky B (X.env :: X.outer) a (Zc cls d) X.env.locals s'.heap := by rw [← hs]; exact sky
    show wpAny (model X.prog X.w) X.A (noteFrame (.ref a) X.env) _ _ _
    refine Sky.land Zc.steady hfr hf sky' fun h3 fl3 up3 => ?_
    have J3 : Inv X pins σ' H' { s' with heap := h3 } := J.landed nb fl3.1 (up.trans up3) os ag
    obtain ⟨oe3, vs3, he3, hz3, hd3⟩ := fl3.there
    have notFr : ∀ {h : Heap} {o : Obj} {vs : Array Value}, h.FunFrames B (X.env :: X.outer) → h.get? a = some o → o.data = .fields vs → a ∉ frs (X.env :: X.outer) := fun {h o vs} ff e dd hm => by
      obtain ⟨_, o', e', hnf⟩ := ff.mem hm
      rw [e] at e'; cases e'
      exact hnf _ dd
    have nfr := notFr fl3.2.2.1 he3 hd3
    have nL : a ≠ X.env.locals := fun z => nfr (List.mem_filterMap.mpr ⟨X.env, List.mem_cons_self, by rw [hf, z]⟩)
    have nF : a ∉ X.fs := fun hm => by
      obtain ⟨e, he, q⟩ := List.mem_filterMap.mp hm
      exact nfr (List.mem_filterMap.mpr ⟨e, List.mem_cons_of_mem _ he, q⟩)
    have S3 := J3.suite he3 hd3 na nL nF
    refine wpAny_handleBy_cons (codeAny_handlers_test ?_) (by intro q; cases q)
    have LT : PySem.W.Looks (model X.prog X.w) h3 (typeOf (.ref a)) cls := fun A Q E s k q => wpAny_typeOf_ref (k _ _ he3) (by rw [hz3.1]; exact q)
    have LM := PySem.W.exm_one (M := model X.prog X.w) (J3.kIn) LT hb1
    have test : ∀ {Q : Value → Shared → Prop} {E : Value → Shared → Prop}, Q c { s' with heap := h3 } → wpAny (model X.prog X.w) (X.A.mark (some (.ref a))) (eval (.Name x np) X.env) Q E { s' with heap := h3 } := fun {Q E} q => by
      obtain ⟨hg, hdbg, hm | ⟨hm, hv, hnn⟩⟩ := hc
      · exact ld_glob (X := X.suite a ((a, oe3) :: (X.pn ++ pins))) S3 hg hm q hdbg
      · exact ld_blt (X := X.suite a ((a, oe3) :: (X.pn ++ pins))) S3 hg hm hv q hnn hdbg
    refine test (LM.here ?_)
    cases b with
    | true =>
      refine codeAny_handlers_suite_as ?_
      refine HandSPX.lands_againZ fl3 fun h4 fl4 up4 => ?_
      have J4 : Inv X pins σ' H' { s' with heap := h4 } := J.landed nb fl4.1 ((up.trans up3).trans up4) os ag
      obtain ⟨oe4, vs4, he4, hz4, hd4⟩ := fl4.there
      obtain ⟨rfl, hyes'⟩ := hyes rfl
      have nst : a ∉ frs X.stack := by rw [hs]; exact nfr
      have n0 : X.s_0.heap.get? a = none := by
        cases q : X.s_0.heap.get? a with
        | none => rfl
        | some o =>
          obtain ⟨o', e'⟩ := J.base.there a o q (by rw [hex]; exact fun z => by cases z)
          have z := nb a o' e' nst
          rw [fl4.2.1] at z; cases z
      have np' : ∀ p ∈ X.pn ++ pins, p.1 ≠ a := fun p hp z => by
        obtain ⟨e, _⟩ := J.pin p hp
        rw [z] at e
        have y := nb a _ e nst
        rw [fl4.2.1] at y; cases y
      have J5 := Inv.track J4 he4 hz4 hd4 na nL n0 np'
      refine store_ok (X := X.suite a (X.pn ++ pins)) (v := .ref a) (Inv.toSuite J5 a) hN hi hloc rfl (fun s5 S5 => ?_) (.inr hln)
      refine wpAny_mono ((hsu a (X.pn ++ pins)).run [] s5 _ _ _ S5 (hyes' a na)) (fun f s6 hsp => ?_) (fun _ _ z => False.elim z)
      have end_ : ∀ {σ6 : L2.St} {H6 : Hp} {Q : Shared → Prop}, Inv (X.suite a (X.pn ++ pins)) [] σ6 H6 s6 → (∀ s7, Inv X pins (σ6.set i none) H6 s7 → Q s7) →
          wpAny (model X.prog X.w) X.A (do bindName X.env n .none; unbindBehindTheSuite X.env n pos') (fun _ s7 => Q s7) X.xe s6 := fun {σ6 H6 Q} S6 hq => gone_ok (Inv.ofSuite S6 ok) hN hi hln hq
      cases f with
      | next =>
        obtain ⟨σ6, H6, S6, q6⟩ := hsp
        exact end_ S6 fun s7 J7 => ⟨_, _, J7, q6⟩
      | brk =>
        obtain ⟨σ6, H6, S6, q6⟩ := hsp
        exact end_ S6 fun s7 J7 => ⟨_, _, J7, q6⟩
      | cont =>
        obtain ⟨σ6, H6, S6, q6⟩ := hsp
        exact end_ S6 fun s7 J7 => ⟨_, _, J7, q6⟩
      | ret u =>
        obtain ⟨v6, σ6, H6, S6, r6, q6⟩ := hsp
        exact end_ S6 fun s7 J7 => ⟨_, _, _, J7, r6, q6⟩
    | false =>
      show wpAny _ X.A (handleBy (.ref a) X.env []) _ _ _
      refine wpAny_handleBy_nil ?_
      obtain ⟨k1, k2, k3, oe, vs, T, oT, ts', he, hz, hd, h1, hr⟩ := id fl3
      unfold PySem.passOn
      refine wpAny_bind (wpAny_field he hd h1 ?_)
      rw [if_neg (show ¬ ((Value.ref T == Value.none) = true) from by simp)]
      have fin : wpAny (model X.prog X.w) X.A (setFlight (.ref a) X.env.frame) (fun _ s4 => wpAny (model X.prog X.w) X.A (throw (.ref a) : Sem Flow) (SP X pins D) X.xe s4) X.xe { s' with heap := h3 } := by
        rw [hf]
        refine HandSPX.setFlight_upZ fl3 fun h4 hh4 up4 => wpAny_throw (tk _ _ ?_)
        exact ⟨a, B, sI, pins, σ', H', cls, d, rfl, J, nb, (up.trans up3).trans up4, .inr (.inr (by rw [hs]; exact hh4)), na, os, ag, hno rfl⟩
      first
        | exact wpAny_bind (wpAny_pure (wpAny_bind fin))
        | exact wpAny_bind fin
  · cases f with
    | next =>
      obtain ⟨σ', H', J', q⟩ := hsp
      exact wpAny_execs_nil ⟨σ', H', J'.ofTry ok, q⟩
    | brk =>
      obtain ⟨σ', H', J', q⟩ := hsp
      exact ⟨σ', H', J'.ofTry ok, q⟩
    | cont =>
      obtain ⟨σ', H', J', q⟩ := hsp
      exact ⟨σ', H', J'.ofTry ok, q⟩
    | ret u =>
      obtain ⟨v, σ', H', J', r, q⟩ := hsp
      exact ⟨v, σ', H', J'.ofTry ok, r, q⟩
end
/-! ## try -/
def canS (T : Tb) (W : WX) (g : DS) : TS := fun D σ H => ∃ P ι F δ s, RelH T P ι F s H ∧ REnv T F ι δ σ ∧ PostS T P D W F ι (g δ s)
theorem PSs.weak {X : Cx} {b : List Stmt} {t t' : TS} (h : PSs X b t) (k : ∀ D σ H, t' D σ H → t D σ H) : PSs X b t' := ⟨fun pins s σ H D I q => h.run pins s σ H D I (k _ _ _ q)⟩
theorem DenS.can {T : Tb} {W : WX} {t : TS} {g : DS} (d : DenS T W t g) {D : Ends} {σ : L2.St} {H : Hp} (h : canS T W g D σ H) : t D σ H := by
  obtain ⟨P, ι, F, δ, s, R, E, post⟩ := h
  exact d _ _ _ _ _ _ _ _ R E post
def setE (i : Option Nat) (o : Option D) (δ : Env) : Env := match i with
  | some i => δ.set i o
  | none => δ
def Out.unset (i : Option Nat) : Out → Out
  | .nx δ s => .nx (setE i none δ) s
  | .bk δ s => .bk (setE i none δ) s
  | .ct δ s => .ct (setE i none δ) s
  | .rt d s => .rt d s
  | _ => .stuck
def sTry (anc : Nat → Nat → Option Bool) (c : Nat) (i : Option Nat) (f g : DS) : DS := fun δ s => match f δ s with
  | .ex k δ1 s1 => match anc k c with
    | some true => (g (setE i (some (.exc k)) δ1) s1).unset i
    | some false => .ex k δ1 s1
    | none => .stuck
  | o => o
section
variable {T : Tb} {X : Cx} {par : List Nat} {n1 : Nat}
theorem REnv.setO {F : Hp} {ι : List Addr} {δ : Env} {σ : L2.St} {d : D} {v : V} (e : REnv T F ι δ σ) (h : Rp T F ι d v) (i : Option Nat) : REnv T F ι (setE i (some d) δ) (Mp.setO i (some v) σ) := by
  cases i with
  | none => exact e
  | some i => exact e.set h i
theorem REnv.unsetO {F : Hp} {ι : List Addr} {δ : Env} {σ : L2.St} (e : REnv T F ι δ σ) (i : Option Nat) : REnv T F ι (setE i none δ) (Mp.setO i none σ) := by
  cases i with
  | none => exact e
  | some i => exact e.unset i
theorem den_try {W : WX} {c : Nat} {i : Option Nat} {f g : DS} (x1 : ExT T.K T.ca par n1) : DenS T W (fun D σ H => canS T (wTr T.K (.ref (T.ca c)) i (canS T W0 g) W D) f D σ H) (sTry (ancO par) c i f g) := fun En σ H P ι F δ s R E post => by
  refine ⟨P, ι, F, δ, s, R, E, ?_⟩
  unfold sTry at post
  cases e : f δ s with
  | ex k δ1 s1 =>
    rw [e] at post
    intro σ' H' ι' F' g' R' E'
    dsimp only at post
    cases q : ancO par k c with
    | none => rw [q] at post; exact post.elim
    | some b =>
      refine ⟨b, x1.exm k c b q, fun hb => ⟨rfl, fun a na => ?_⟩, fun hb => ?_⟩
      · subst hb
        rw [q] at post
        dsimp only at post
        have R2 := R'.new na (ExV (.ref (T.ca k)) a)
        have g2 : Grow F' ι' (upd F' a (ExV (.ref (T.ca k)) a)) ι' := grow_new (R'.freeF na) _
        refine ⟨P, ι', _, setE i (some (.exc k)) δ1, s1, R2, (E'.mono g2).setO (by unfold Rp; exact ⟨a, rfl, upd_same⟩) i, ?_⟩
        have gg := g'.trans g2
        cases e2 : g (setE i (some (.exc k)) δ1) s1 with
        | nx δ2 s2 =>
          rw [e2] at post
          exact fun σ3 H3 ι3 F3 g3 R3 E3 => post _ H3 ι3 F3 (gg.trans g3) R3 (E3.unsetO i)
        | bk δ2 s2 =>
          rw [e2] at post
          exact fun σ3 H3 ι3 F3 g3 R3 E3 => post _ H3 ι3 F3 (gg.trans g3) R3 (E3.unsetO i)
        | ct δ2 s2 =>
          rw [e2] at post
          exact fun σ3 H3 ι3 F3 g3 R3 E3 => post _ H3 ι3 F3 (gg.trans g3) R3 (E3.unsetO i)
        | rt d s2 =>
          rw [e2] at post
          exact fun v H3 ι3 F3 g3 R3 r3 => post v H3 ι3 F3 (gg.trans g3) R3 r3
        | ex k2 δ2 s2 => rw [e2] at post; exact post.elim
        | stuck => rw [e2] at post; exact post.elim
      · subst hb
        rw [q] at post
        exact post σ' H' ι' F' g' R' E'
  | nx δ1 s1 => rw [e] at post; exact post
  | rt d s1 => rw [e] at post; exact post
  | bk δ1 s1 => rw [e] at post; exact post
  | ct δ1 s1 => rw [e] at post; exact post
  | stuck => rw [e] at post; exact post
theorem s_tryA {x n : Str} {body suite : List Stmt} {b₀ : Stmt} {np pos pos' : Pos} {f g : DS} (c i : Nat) (x1 : ExT T.K T.ca par n1) (hN : X.N.Nodup) (gC : X.mg x = some (.ref (T.ca c))) (hb : PDb T X body f) (hsu : ∀ (a : Addr) (pn : List (Addr × Obj)), PDb T (X.suite a pn) (b₀ :: suite) g)
    (hi : X.N[i]? = some n := by rfl) (hln : X.env.kindOf n = some .local := by rfl) (hg : Gl X x := by rfl) (hdb : (x == ("__debug__" : Str)) = false := by decide) (hs : X.stack = X.env :: X.outer := by rfl) (hf : X.env.frame = some X.env.locals := by rfl) (hex : X.ex = [] := by rfl) (hK : X.K = T.K := by rfl) :
    PDs T X (.Try body [.ExceptHandler (some (.Name x np)) (some n) (b₀ :: suite) pos'] [] [] pos) (sTry (ancO par) c (some i) f g) := fun pn xe W tk ow => by
  have hK' : (X.tr pn xe).K = T.K := hK
  have key := ps_tryT (X := X.tr pn xe) (x := x) (n := n) (c := .ref (T.ca c)) (i := i) (body := body) (suite := suite) (b₀ := b₀) (np := np) (pos := pos) (pos' := pos') (tb := fun W' => canS T W' f) (ts := canS T W0 g) (Wout := W) hs hf hex hN hi hln ⟨hg, hdb, .inl gC⟩ tk
    (fun W' pn' xe' tk' ow' => by
      obtain ⟨t, p, d⟩ := hb pn' xe' W' tk' ow'
      exact PSs.weak p fun D σ H q => d.can q)
    (fun a pn' => by
      obtain ⟨t, p, d⟩ := hsu a pn' pn' (fun _ _ => False) W0 takes0 PassesOwn.never
      exact PSs.weak p fun D σ H q => d.can q)
  rw [hK'] at key
  exact ⟨_, key, den_try x1⟩
end
/-! ## isinstance, exceptions among -/
theorem CallR.or {X : Cx} {f : Value} {r r' : List V → Hp → VK → Prop} (h : CallR X f r) (h' : CallR X f r') : CallR X f (fun vs H Q => r vs H Q ∨ r' vs H Q) := by
  intro pins s σ H xs us Q I rv q
  rcases q with q | q
  · exact h pins s σ H xs us Q I rv q
  · exact h' pins s σ H xs us Q I rv q
def rIsX (K : PySem.W.Frag) : List V → Hp → VK → Prop := fun xs H Q => ∃ (a D : Addr) (c : V) (cv : Value) (b : Bool), xs = [.ref a, c] ∧ H a = some (ExV (.ref D) a) ∧ ExcC K D ∧ ClsV c cv ∧ PySem.W.kitOne K (.ref D) cv = some b ∧ Q (.bl b) H
theorem call_isX {X : Cx} : CallR X (.builtin "isinstance") (rIsX X.K) := by
  intro pins s σ H xs us Q I r h
  obtain ⟨a, D, c, cv, b, rfl, hH, C, hcv, e, q⟩ := h
  obtain ⟨u1, u2, rfl, r1, r2⟩ := vals2 r
  cases (show u1 = Value.ref a from r1)
  have e2 := hcv.eq r2
  subst e2
  obtain ⟨⟨oe, hget, hz, vs, hv⟩, _⟩ := (show ObjOk X.prog X.w H s.heap a (ExV (.ref D) a) from I.hok a _ hH)
  have J : PySem.W.InstAt s.heap a oe D none := by
    obtain ⟨oc, od, oda, osl⟩ := oe
    obtain ⟨h1, h2⟩ := hz
    dsimp only at h1 h2 hv
    subst h1 h2 hv
    exact ⟨hget, rfl, rfl, trivial⟩
  exact PySem.W.kia_one (PySem.W.handS_kitx_exc C.hg C.hk C.hs C.hd C.ha C.hn C.ht C.hm) I.kIn J e (fun z => nomatch z) fun tk => ⟨.bl b, H, I.kept (t' := tk) fun _ _ z => z, rfl, q⟩
def rIsA (K : PySem.W.Frag) : List V → Hp → VK → Prop := fun xs H Q => rIsi K xs H Q ∨ rIsX K xs H Q
theorem call_isA {X : Cx} : CallR X (.builtin "isinstance") (rIsA X.K) := CallR.or call_isi call_isX
def bIsA (par : List Nat) : DB
  | [.exc k, .cls c], s => match ancO par k c with
    | some b => .ok (.bl b) s
    | none => .stuck
  | [.exc k, .ty n], s => if n = "ValueError" ∧ k < par.length then .ok (.bl true) s else .stuck
  | [x, .ty n], s => match tyOf s x with
    | some t => match kitB t n with
      | some b => .ok (.bl b) s
      | none => .stuck
    | none => .stuck
  | _, _ => .stuck
theorem db_isA {T : Tb} {par : List Nat} {n1 : Nat} (x1 : ExT T.K T.ca par n1) : DenB T (rIsA T.K) (bIsA par) := by
  intro ds vs H P ι F s Q E R r post
  unfold bIsA at post
  split at post
  · rename_i k c
    obtain ⟨v, u, rfl, h1, h2⟩ := rps2 r
    unfold Rp at h1 h2
    obtain ⟨a, rfl, h1⟩ := h1
    subst h2
    split at post
    · rename_i b hb
      have hk : k < par.length := by
        unfold ancO at hb
        split at hb
        · rename_i z; exact z.1
        · cases hb
      exact .inr ⟨a, T.ca k, .ref (T.ca c), .ref (T.ca c), b, rfl, R.sub _ _ h1, x1.exc _ hk, .own _, x1.kit _ _ _ hb, post.here R (by unfold Rp; rfl)⟩
    · exact post.elim
  · obtain ⟨v, u, rfl, h1, h2⟩ := rps2 r
    unfold Rp at h1 h2
    obtain ⟨a, rfl, h1⟩ := h1
    subst h2
    split at post
    · rename_i hk
      obtain ⟨rfl, hk⟩ := hk
      exact .inr ⟨a, _, _, _, true, rfl, R.sub _ _ h1, x1.exc _ hk, .ty _, x1.kiv _ hk, post.here R (by unfold Rp; rfl)⟩
    · exact post.elim
  · obtain ⟨v, u, rfl, h1, h2⟩ := rps2 r
    split at post
    · rename_i t ht
      split at post
      · rename_i b hb
        unfold Rp at h2
        subst h2
        exact .inl ⟨v, _, _, _, b, rfl, .ty _, ty_ok R h1 ht, kit_ty hb, post.here R (by unfold Rp; rfl)⟩
      · exact post.elim
    · exact post.elim
  · exact post.elim
end Mp
/-! # MpH -/
namespace Mp
open PySem PySem.Spec L2
/-! ## cells -/
section
variable {T : Tb} {P : Hp} {ι : List Addr} {F : Hp} {s : Sto} {H : Hp}
theorem grow_app (F : Hp) (ι : List Addr) (p : Addr) : Grow F ι F (ι ++ [p]) := ⟨fun _ _ h => h, [p], rfl⟩
/-- a new cell -/
theorem RelH.alloc (R : RelH T P ι F s H) {p : Addr} (hp : H p = none) {o : HO} {c : Cell} (hc : CellAt T (ι ++ [p]) F (upd H p o) p c) : RelH T P (ι ++ [p]) F (s ++ [c]) (upd H p o) := by
  have old : ∀ {n : Nat} {c' : Cell} {a : Addr}, s[n]? = some c' → (ι ++ [p])[n]? = some a → ι[n]? = some a := fun {n c' a} h1 h2 => by
    have := (List.getElem?_eq_some_iff.mp h1).1
    rw [List.getElem?_append_left (by rw [R.len]; exact this)] at h2
    exact h2
  have split_ : ∀ {n : Nat} {c' : Cell}, (s ++ [c])[n]? = some c' → s[n]? = some c' ∨ (n = s.length ∧ c' = c) := fun {n c'} h => by
    by_cases hn : n < s.length
    · rw [List.getElem?_append_left hn] at h; exact .inl h
    · rw [List.getElem?_append_right (Nat.le_of_not_lt hn)] at h
      have hl := (List.getElem?_eq_some_iff.mp h).1
      have e0 : n - s.length = 0 := by simpa using hl
      rw [e0] at h
      exact .inr ⟨by omega, (Option.some.inj h).symm⟩
  have newI : ∀ {a : Addr}, (ι ++ [p])[s.length]? = some a → a = p := fun {a} h => by
    rw [← R.len] at h
    simp at h
    exact h.symm
  have ne : ∀ {n : Nat} {c' : Cell} {a : Addr}, s[n]? = some c' → c'.live = true → ι[n]? = some a → a ≠ p := fun {n c' a} h1 l h2 => by
    obtain ⟨u, hu⟩ := (R.cell n c' a h1 h2).has l
    exact ne_of_none hu hp
  refine ⟨fun a u h => ?_, fun a u h => ?_, R.dis, by simp [R.len], fun n c' a h1 h2 => ?_, fun n c' a h1 l h2 => ?_, fun n m c1 c2 a h1 h2 l1 l2 h3 h4 => ?_⟩
  · have q := R.sub a u h
    rw [upd_ne (ne_of_none q hp)]; exact q
  · have q := R.pro a u h
    rw [upd_ne (ne_of_none q hp)]; exact q
  · rcases split_ h1 with h1 | ⟨rfl, rfl⟩
    · have h2' := old h1 h2
      refine (R.cell n c' a h1 h2').grow (grow_app _ _ _) (fun _ => rfl) (fun l => upd_ne (ne h1 l h2'))
    · rw [newI h2]; exact hc
  · rcases split_ h1 with h1 | ⟨rfl, rfl⟩
    · exact R.npr n c' a h1 l (old h1 h2)
    · rw [newI h2]; exact R.freeP hp
  · rcases split_ h1 with k1 | ⟨e1, f1⟩
    · rcases split_ h2 with k2 | ⟨e2, f2⟩
      · exact R.nod n m c1 c2 a k1 k2 l1 l2 (old k1 h3) (old k2 h4)
      · exact absurd (newI (e2 ▸ h4)) (ne k1 l1 (old k1 h3))
    · rcases split_ h2 with k2 | ⟨e2, f2⟩
      · exact absurd (newI (e1 ▸ h3)) (ne k2 l2 (old k2 h4))
      · rw [e1, e2]
/-- a cell is written -/
theorem RelH.setC (R : RelH T P ι F s H) {n : Nat} {a : Addr} {c c' : Cell} {o : HO} (hs : s[n]? = some c) (hl : c.live = true) (hi : ι[n]? = some a) (hc : CellAt T ι F (upd H a o) a c') : RelH T P ι F (s.set n c') (upd H a o) := by
  have hn := (List.getElem?_eq_some_iff.mp hs).1
  have hF : F a = none := by
    have q := R.cell n c a hs hi
    cases c with
    | dead => cases hl
    | lst _ => exact q.1
    | dct _ _ => exact q.1
    | obj _ _ _ => exact q.1
  have hP := R.npr n c a hs hl hi
  have at_ : ∀ {m : Nat} {d : Cell}, (s.set n c')[m]? = some d → (m = n ∧ d = c') ∨ (m ≠ n ∧ s[m]? = some d) := fun {m d} h => by
    by_cases e : n = m
    · subst e
      rw [List.getElem?_set_self hn] at h
      exact .inl ⟨rfl, (Option.some.inj h).symm⟩
    · rw [List.getElem?_set_ne e] at h
      exact .inr ⟨fun z => e z.symm, h⟩
  have ne : ∀ {m : Nat} {d : Cell} {b : Addr}, m ≠ n → s[m]? = some d → d.live = true → ι[m]? = some b → b ≠ a := fun {m d b} hm h l hb z => by
    subst z
    exact hm (R.nod m n d c b h hs l hl hb hi)
  have hio : ∀ {b : Addr}, ι[n]? = some b → b = a := fun {b} h => by rw [hi] at h; exact (Option.some.inj h).symm
  refine ⟨fun b u h => ?_, fun b u h => ?_, R.dis, by simp [R.len], fun m d b h1 h2 => ?_, fun m d b h1 l h2 => ?_, fun m k c1 c2 b h1 h2 l1 l2 h3 h4 => ?_⟩
  · rw [upd_ne (ne_of_none h hF)]; exact R.sub b u h
  · rw [upd_ne (ne_of_none h hP)]; exact R.pro b u h
  · rcases at_ h1 with ⟨rfl, rfl⟩ | ⟨hm, h1⟩
    · rw [hio h2]; exact hc
    · exact (R.cell m d b h1 h2).grow (Grow.refl _ _) (fun _ => rfl) fun l => upd_ne (ne hm h1 l h2)
  · rcases at_ h1 with ⟨rfl, rfl⟩ | ⟨hm, h1⟩
    · rw [hio h2]; exact hP
    · exact R.npr m d b h1 l h2
  · rcases at_ h1 with ⟨e1, f1⟩ | ⟨hm, k1⟩
    · rcases at_ h2 with ⟨e2, f2⟩ | ⟨hk, k2⟩
      · rw [e1, e2]
      · exact absurd (hio (e1 ▸ h3)) (ne hk k2 l2 h4)
    · rcases at_ h2 with ⟨e2, f2⟩ | ⟨hk, k2⟩
      · exact absurd (hio (e2 ▸ h4)) (ne hm k1 l1 h3)
      · exact R.nod m k c1 c2 b k1 k2 l1 l2 h3 h4
/-- a cell stays as it is from now on -/
theorem RelH.freeze (R : RelH T P ι F s H) {n : Nat} {a : Addr} {c : Cell} {o : HO} (hs : s[n]? = some c) (hl : c.live = true) (hi : ι[n]? = some a) (hF : F a = none) (hH : H a = some o) : RelH T P ι (upd F a o) (s.set n .dead) H := by
  have hn := (List.getElem?_eq_some_iff.mp hs).1
  have hP := R.npr n c a hs hl hi
  have at_ : ∀ {m : Nat} {d : Cell}, (s.set n .dead)[m]? = some d → d.live = true → m ≠ n ∧ s[m]? = some d := fun {m d} h l => by
    by_cases e : n = m
    · subst e
      rw [List.getElem?_set_self hn] at h
      cases h
      cases l
    · rw [List.getElem?_set_ne e] at h
      exact ⟨fun z => e z.symm, h⟩
  have g : Grow F ι (upd F a o) ι := grow_new hF o
  refine ⟨fun b u h => ?_, R.pro, fun b u h => ?_, by simp [R.len], fun m d b h1 h2 => ?_, fun m d b h1 l h2 => R.npr m d b (at_ h1 l).2 l h2, fun m k c1 c2 b h1 h2 l1 l2 h3 h4 => R.nod m k c1 c2 b (at_ h1 l1).2 (at_ h2 l2).2 l1 l2 h3 h4⟩
  · by_cases e : b = a
    · subst e; rw [upd_same] at h; cases h; exact hH
    · rw [upd_ne e] at h; exact R.sub b u h
  · rw [upd_ne (ne_of_none h hP)]; exact R.dis b u h
  · cases hd : d.live with
    | false =>
      cases d with
      | dead => trivial
      | _ => cases hd
    | true =>
      obtain ⟨hm, h1⟩ := at_ h1 hd
      refine (R.cell m d b h1 h2).grow g (fun l => upd_ne fun z => ?_) (fun _ => rfl)
      subst z
      exact hm (R.nod m n d c b h1 hs l hl h2 hi)
theorem lc_of (R : RelH T P ι F s H) {n : Nat} {a : Addr} {xs : List D} (hs : s[n]? = some (.lst xs)) (hi : ι[n]? = some a) : F a = none ∧ ∃ vs, H a = some (.lst vs) ∧ Rps T F ι xs vs := R.cell n _ a hs hi
end
/-- [..] as a cell -/
def dLstC (f : DA) : DE := fun δ s => (f δ s).bind fun xs s1 => if xs.length ≤ lim then .ok (.loc s1.length) (s1 ++ [.lst xs]) else .stuck
section
variable {T : Tb} {X : Cx}
theorem post_loc {P : Hp} {ι : List Addr} {F : Hp} {s : Sto} {H : Hp} {Q : V → Hp → Prop} {E : Nat → Hp → Prop} {p : Addr} {o : HO} {c : Cell} (post : Post T P (Rp T) Q E F ι (.ok (.loc s.length) (s ++ [c]))) (R : RelH T P ι F s H) (hp : H p = none)
    (hc : CellAt T (ι ++ [p]) F (upd H p o) p c) : Q (.ref p) (upd H p o) := by
  refine post (.ref p) _ _ _ (grow_app _ _ p) (R.alloc hp hc) ?_
  unfold Rp
  exact ⟨p, by rw [← R.len]; simp, rfl⟩
theorem d_lstC {es : List Expr} {pos : Pos} {f : DA} (h : PDa T X es f) : PDe T X (.List es pos) (dLstC f) := fun pn xe W tk => by
  obtain ⟨t1, p1, d1⟩ := h pn xe W tk
  refine ⟨_, pe_lst p1, fun σ H P ι F δ s Q R E post => ?_⟩
  show t1 σ H _
  refine den_then d1 R E post fun x y H1 ι1 F1 s1 g1 R1 E1 r1 post1 => ?_
  split at post1
  · rename_i hl
    refine ⟨by rw [← r1.1.len]; exact lim_le hl, fun p hp => post_loc post1 R1 hp ?_⟩
    exact ⟨R1.freeF hp, _, upd_same, r1.1.mono (grow_app _ _ _)⟩
  · exact post1.elim
/-- {}, not written -/
theorem d_dct0 {pos : Pos} : PDe T X (.Dict [] [] pos) (dC (.dct [] [])) := fun pn xe W tk => ⟨_, pe_dnewK, fun σ H P ι F δ s Q R E post p hp => by
  refine post.new R hp fun g => ?_
  unfold Rp
  exact ⟨p, [], rfl, .inl upd_same, rfl, .nil⟩⟩
/-! ## x[i] = e -/
def setAt (o i d : D) (s : Sto) : Option Sto := match o, i with
  | .loc n, .int k => match s[n]? with
    | some (.lst xs) => match ixN xs.length k with
      | some j => some (s.set n (.lst (xs.set j d)))
      | none => none
    | _ => none
  | _, _ => none
def sIxS (f fo fi : DE) : DS := fun δ s => (f δ s).out δ fun d s1 => (fo δ s1).out δ fun o s2 => (fi δ s2).out δ fun i s3 => match setAt o i d s3 with
  | some s4 => .nx δ s4
  | none => .stuck
theorem s_ixS {o i e : Expr} {tpos pos : Pos} {f fo fi : DE} (he : PDe T X e f) (ho : PDe T X o fo) (hi : PDe T X i fi)
    (ha : ∀ v, assign (.Subscript o i tpos) X.env v = (do
      let ov ← holding [v] (eval o X.env)
      let iv ← holding [v, ov] (eval i X.env)
      standAt tpos
      holding [v, ov, iv] (setItem ov iv v)
      release [v, ov, iv] []) := by intro _; rfl)
    (hs : swapsWithSole [.Subscript o i tpos] e pos.line X.env = pure false := by rfl) (hw : swappedStores [.Subscript o i tpos] e X.env = pure none := by rfl)
    (h1 : (assignEach [.Subscript o i tpos] X.env).map (·.2) = [assign (.Subscript o i tpos) X.env] := by rfl) : PDs T X (.Assign [.Subscript o i tpos] e pos) (sIxS f fo fi) := fun pn xe W tk _ => by
  obtain ⟨t1, p1, d1⟩ := he pn xe W tk
  obtain ⟨t2, p2, d2⟩ := ho pn xe W tk
  obtain ⟨t3, p3, d3⟩ := hi pn xe W tk
  refine ⟨_, ps_asg (X := X.tr pn xe) p1 (pg_sub (X := X.tr pn xe) p2 p3 set_list ha) hs hw h1, fun En σ H P ι F δ s R E post => ?_⟩
  show t1 σ H _
  refine dens_then d1 R E post fun x y H1 ι1 F1 s1 g1 R1 E1 r1 post1 => ?_
  show t2 σ H1 _
  refine dens_then d2 R1 E1 post1 fun x2 y2 H2 ι2 F2 s2 g2 R2 E2 r2 post2 => ?_
  refine dens_then d3 R2 E2 post2 fun x3 y3 H3 ι3 F3 s3 g3 R3 E3 r3 post3 => ?_
  have rx := (r1.mono g2).mono g3
  have ro := r2.mono g3
  cases q : setAt x2 x3 x s3 with
  | none => rw [q] at post3; exact post3.elim
  | some s4 =>
    rw [q] at post3
    unfold setAt at q
    split at q
    · rename_i n k
      split at q
      · rename_i xs hs3
        split at q
        · rename_i j hj
          cases q
          unfold Rp at ro r3
          obtain ⟨a, e1, rfl⟩ := ro
          obtain ⟨h1, vs, h2, h3⟩ := lc_of R3 hs3 e1
          refine ⟨a, vs, k, j, rfl, r3, h2, by rw [← h3.len]; exact hj, ?_⟩
          exact post3 σ _ ι3 F3 (Grow.refl _ _) (R3.setC hs3 rfl e1 ⟨h1, _, upd_same, Rps.set rx j h3⟩) E3
        · cases q
      · cases q
    · cases q
/-! ## a slot's cell stays as it is from now on -/
def frzD (s : Sto) : D → Option (D × Sto)
  | .loc n => match s[n]? with
    | some (.lst xs) => some (.lst xs, s.set n .dead)
    | some (.dct ks xs) => some (.dct ks xs, s.set n .dead)
    | some (.obj c ns xs) => some (.obj c ns xs, s.set n .dead)
    | _ => none
  | d => some (d, s)
def sFrz (i : Nat) : DS := fun δ s => match δ[i]? with
  | some (some d) => match frzD s d with
    | some (d', s') => .nx (δ.set i (some d')) s'
    | none => .nx δ s
  | _ => .nx δ s
theorem frz_ok {P : Hp} {ι : List Addr} {F : Hp} {s s' : Sto} {H : Hp} {d d' : D} {v : V} (R : RelH T P ι F s H) (r : Rp T F ι d v) (h : frzD s d = some (d', s')) : ∃ F', Grow F ι F' ι ∧ RelH T P ι F' s' H ∧ Rp T F' ι d' v := by
  unfold frzD at h
  split at h
  · rename_i n
    unfold Rp at r
    obtain ⟨a, e1, rfl⟩ := r
    split at h
    · rename_i xs hs
      cases h
      obtain ⟨h1, vs, h2, h3⟩ := R.cell _ _ _ hs e1
      refine ⟨upd F a (.lst vs), grow_new h1 _, R.freeze hs rfl e1 h1 h2, ?_⟩
      unfold Rp
      exact ⟨a, vs, rfl, upd_same, h3.mono (grow_new h1 _)⟩
    · rename_i ks xs hs
      cases h
      obtain ⟨h1, kvs, h2, h3, h4⟩ := R.cell _ _ _ hs e1
      refine ⟨upd F a (.dK kvs), grow_new h1 _, R.freeze hs rfl e1 h1 h2, ?_⟩
      unfold Rp
      exact ⟨a, kvs, rfl, .inl upd_same, h3, h4.mono (grow_new h1 _)⟩
    · rename_i c ns xs hs
      cases h
      obtain ⟨h1, dx, fs, h2, h3, h4⟩ := R.cell _ _ _ hs e1
      refine ⟨upd F a (.ins (T.ca c) dx fs), grow_new h1 _, R.freeze hs rfl e1 h1 h2, ?_⟩
      unfold Rp
      exact ⟨a, dx, fs, rfl, upd_same, h3, h4.mono (grow_new h1 _)⟩
    · cases h
  · cases h
    exact ⟨F, Grow.refl _ _, R, r⟩
/-- ahead of the rest of a block -/
theorem b_frz {rest : List Stmt} {g : DS} (i : Nat) (h : PDb T X rest g) : PDb T X rest (sSeq (sFrz i) g) := fun pn xe W tk ow => by
  obtain ⟨t1, p1, d1⟩ := h pn xe W tk ow
  refine ⟨t1, p1, fun En σ H P ι F δ s R E post => ?_⟩
  unfold sSeq sFrz at post
  cases q : δ[i]? with
  | none => rw [q] at post; exact d1 _ _ _ _ _ _ _ _ R E post
  | some o =>
    cases o with
    | none => rw [q] at post; exact d1 _ _ _ _ _ _ _ _ R E post
    | some d =>
      rw [q] at post
      dsimp only at post
      cases hz : frzD s d with
      | none => rw [hz] at post; exact d1 _ _ _ _ _ _ _ _ R E post
      | some z =>
        obtain ⟨d', s'⟩ := z
        rw [hz] at post
        obtain ⟨v, e1, e2⟩ := E.at_ i d q
        obtain ⟨F', g', R', r'⟩ := frz_ok R e2 hz
        have E' := (E.mono g').set r' i
        have hl := (List.getElem?_eq_some_iff.mp e1).1
        have es : σ.set i (some v) = σ := by
          refine List.ext_getElem? fun j => ?_
          by_cases c : i = j
          · subst c; rw [List.getElem?_set_self hl, e1]
          · rw [List.getElem?_set_ne c]
        rw [es] at E'
        exact d1 _ _ _ _ _ _ _ _ R' E' (PostS.mono g' post)
/-! ## o.m(..) of a built-in's method -/
abbrev DM := D → List D → Sto → Res D
def recvTy (s : Sto) : D → Option String
  | .str _ => some "str"
  | .int _ => some "int"
  | .lst _ => some "list"
  | .scr _ => some "list"
  | .loc n => match s[n]? with
    | some (.lst _) => some "list"
    | some (.dct _ _) => some "dict"
    | _ => none
  | _ => none
def DenM (T : Tb) (r : V → List V → Hp → VK → Prop) (op : DM) : Prop := ∀ d ds v vs H P ι F s Q E, RelH T P ι F s H → Rp T F ι d v → Rps T F ι ds vs → Post T P (Rp T) Q E F ι (op d ds s) → r v vs H Q
def dMt (ty : String) (op : DM) (f : DE) (fa : DA) : DE := fun δ s => (f δ s).bind fun x s1 => if recvTy s1 x = some ty then (fa δ s1).bind fun xs s2 => op x xs s2 else .stuck
theorem tyV_of {P : Hp} {ι : List Addr} {F : Hp} {s : Sto} {H : Hp} {d : D} {v : V} {ty : String} (R : RelH T P ι F s H) (r : Rp T F ι d v) (h : recvTy s d = some ty) : tyV T.K ty v H := by
  unfold recvTy at h
  split at h
  · unfold Rp at r; subst r; cases h; rfl
  · unfold Rp at r; subst r; cases h; rfl
  · unfold Rp at r
    obtain ⟨a, vs, rfl, e, _⟩ := r
    cases h
    exact .inl ⟨rfl, vs, SqL.of (R.sub _ _ e)⟩
  · unfold Rp at r
    obtain ⟨a, rfl, e⟩ := r
    cases h
    exact .inl ⟨rfl, _, sql_mono R.sub e⟩
  · unfold Rp at r
    obtain ⟨a, e1, rfl⟩ := r
    split at h
    · rename_i xs hs
      cases h
      obtain ⟨_, vs, h2, _⟩ := R.cell _ _ _ hs e1
      exact .inl ⟨rfl, vs, SqL.of h2⟩
    · rename_i ks xs hs
      cases h
      obtain ⟨_, kvs, h2, _⟩ := R.cell _ _ _ hs e1
      exact .inr (.inr (.inl ⟨rfl, .inl ⟨kvs, h2⟩⟩))
    · cases h
  · cases h
theorem d_mt {o e : Expr} {es : List Expr} {name : Str} {apos cpos : Pos} {ty id : String} {r : V → List V → Hp → VK → Prop} {op : DM} {f : DE} {fa : DA} (pa : PlainAttrs ty) (slot : Slot ty name id) (hty : typeOf (.builtin id) = pure (.type "method_descriptor")) (hm : ∀ pn xe, MtR (X.tr pn xe) id r) (hr : DenM T r op)
    (ho : PDe T X o f) (ha : PDa T X (e :: es) fa) (hbase : attributeBase o name X.env (eval o X.env) = eval o X.env := by rfl)
    (hfew : ((backTo cpos (starEach (e :: es) X.env)).all (fun x => !x.1) && (backToKw cpos (keywordEach [] X.env)).all (fun x => x.1.isSome)
      && decide ((e :: es).length + ([] : List Keyword).length + (if ([] : List Keyword).isEmpty then 0 else 1) < 30)) = true := by rfl)
    (hline : (apos.endLine == cpos.line) = true := by rfl) (hs : starEach (e :: es) X.env = (false, eval e X.env) :: starEach es X.env := by rfl) (hplain : (backTo cpos (starEach es X.env)).any (·.1) = false := by rfl) (hK : X.K = T.K := by rfl) :
    PDe T X (.Call (.Attribute o name apos) (e :: es) [] cpos) (dMt ty op f fa) := fun pn xe W tk => by
  obtain ⟨t1, p1, d1⟩ := ho pn xe W tk
  obtain ⟨t2, p2, d2⟩ := ha pn xe W tk
  have hK' : (X.tr pn xe).K = T.K := hK
  refine ⟨_, pe_bm (X := X.tr pn xe) pa slot hty (hm pn xe) p1 p2 hbase hfew hline hs hplain, fun σ H P ι F δ s Q R E post => ?_⟩
  rw [hK']
  show t1 σ H _
  refine den_then d1 R E post fun x y H1 ι1 F1 s1 g1 R1 E1 r1 post1 => ?_
  split at post1
  · rename_i ht
    refine ⟨tyV_of R1 r1 ht, ?_⟩
    refine den_then d2 R1 E1 post1 fun xs ys H2 ι2 F2 s2 g2 R2 E2 r2 post2 => ?_
    exact hr _ _ _ _ _ _ _ _ _ _ _ R2 (r1.mono g2) r2.1 post2
  · exact post1.elim
theorem d_mt0 {o : Expr} {name : Str} {apos cpos : Pos} {ty id : String} {r : V → List V → Hp → VK → Prop} {op : DM} {f : DE} (pa : PlainAttrs ty) (slot : Slot ty name id) (hty : typeOf (.builtin id) = pure (.type "method_descriptor")) (hm : ∀ pn xe, MtR (X.tr pn xe) id r) (hr : DenM T r op)
    (ho : PDe T X o f) (hbase : attributeBase o name X.env (eval o X.env) = eval o X.env := by rfl) (hline : (apos.endLine == cpos.line) = true := by rfl) (hK : X.K = T.K := by rfl) :
    PDe T X (.Call (.Attribute o name apos) [] [] cpos) (dMt ty op f aNil) := fun pn xe W tk => by
  obtain ⟨t1, p1, d1⟩ := ho pn xe W tk
  have hK' : (X.tr pn xe).K = T.K := hK
  refine ⟨_, pe_bm0 (X := X.tr pn xe) pa slot hty (hm pn xe) p1 hbase hline, fun σ H P ι F δ s Q R E post => ?_⟩
  rw [hK']
  show t1 σ H _
  refine den_then d1 R E post fun x y H1 ι1 F1 s1 g1 R1 E1 r1 post1 => ?_
  split at post1
  · rename_i ht
    exact ⟨tyV_of R1 r1 ht, hr _ _ _ _ _ _ _ _ _ _ _ R1 r1 .nil post1⟩
  · exact post1.elim
end
/-! ## lists' methods -/
def mAppend : DM
  | .loc n, [d], s => match s[n]? with
    | some (.lst xs) => if xs.length < lim then .ok .non (s.set n (.lst (xs ++ [d]))) else .stuck
    | _ => .stuck
  | _, _, _ => .stuck
def mIndex : DM
  | x, [y], s => match lqOf s x with
    | some xs => if (flatD y && xs.all flatD) = true then match xs.findIdx? (fun z => eqF z y) with
      | some j => .ok (.int (j : Nat)) s
      | none => .stuck
      else .stuck
    | none => .stuck
  | _, _, _ => .stuck
def mCount : DM
  | x, [y], s => match lqOf s x with
    | some xs => if (flatD y && xs.all flatD) = true then .ok (.int (xs.countP (fun z => eqF z y) : Nat)) s else .stuck
    | none => .stuck
  | _, _, _ => .stuck
def rCntF (K : PySem.W.Frag) : V → List V → Hp → VK → Prop := fun x xs H Q => ∃ (a : Addr) (ys : List V) (y : V), x = V.ref a ∧ xs = [y] ∧ SqL K H a ys ∧ flatV y = true ∧ ys.all flatV = true ∧ Q (.int (ys.countP fun z => eqV z y : Nat)) H
theorem cnt_eq {y : V} (fy : flatV y = true) : ∀ {ys : List V} {us : List Value}, Vals ys us → ys.all flatV = true → us.countP (eqU y) = ys.countP fun z => eqV z y
  | _, _, .nil, _ => rfl
  | z :: ys, u :: us, .cons r t, f => by
    rw [List.all_cons, Bool.and_eq_true] at f
    rw [List.countP_cons, List.countP_cons, cnt_eq fy t f.2, eqU_of r f.1]
theorem mt_lcntF {X : Cx} : MtR X "list.count" (rCntF X.K) := by
  intro pins s σ H x xs v us Q I rx rxs h
  obtain ⟨a, ys, y, rfl, rfl, hs, fy, fys, q⟩ := h
  cases rx
  obtain ⟨uy, rfl, ry⟩ := rxs.one
  obtain ⟨its, rv, ⟨⟨cls, dd, data, sl⟩, n, ho, hc, hdn, hd⟩, hlen⟩ := I.list hs
  simp only at hc hd
  subst hc hd
  refine PySem.call_meets PySem.F.slot_list_count ⟨_, ho, rfl⟩ PySem.F.entry_list_count (PySem.F.args_list_count_2 _ _)
    (SeqAt.list_countAt a its.toArray n dd sl uy (eqU y)) ⟨ho, fun u hu => mem_eqAt ry fy rv fys u (by simpa using hu), ?_⟩
  have ec : its.toArray.toList.countP (eqU y) = ys.countP fun z => eqV z y := by
    rw [List.toList_toArray]; exact cnt_eq fy rv fys
  refine ⟨.int (ys.countP fun z => eqV z y : Nat), H, I.tok _, ⟨s.toks, ?_⟩, q⟩
  show Value.int ((its.toArray.toList.countP (eqU y) : Nat) : Int) s.toks = Value.int ((ys.countP fun z => eqV z y : Nat) : Int) s.toks
  rw [ec]
section
variable {T : Tb}
theorem flats_ok {F : Hp} {ι : List Addr} : ∀ {ds : List D} {vs : List V}, Rps T F ι ds vs → ds.all flatD = true → vs.all flatV = true
  | [], vs, q, _ => by unfold Rps at q; subst q; rfl
  | d :: ds, vs, q, k => by
    unfold Rps at q
    obtain ⟨u, us, rfl, q1, q2⟩ := q
    rw [List.all_cons, Bool.and_eq_true] at k
    rw [List.all_cons, flat_ok q1 k.1, flats_ok q2 k.2]; rfl
theorem cntF_ok {F : Hp} {ι : List Addr} {x : D} {v : V} (r : Rp T F ι x v) (h : flatD x = true) : ∀ {ds : List D} {vs : List V}, Rps T F ι ds vs → ds.all flatD = true → (vs.countP fun z => eqV z v) = ds.countP fun z => eqF z x
  | [], vs, q, _ => by unfold Rps at q; subst q; rfl
  | d :: ds, vs, q, k => by
    unfold Rps at q
    obtain ⟨u, us, rfl, q1, q2⟩ := q
    rw [List.all_cons, Bool.and_eq_true] at k
    rw [List.countP_cons, List.countP_cons, cntF_ok r h q2 k.2, eqF_ok q1 r k.1 h]
theorem dm_append : DenM T rAppend mAppend := by
  intro d ds v vs H P ι F s Q E R r rs post
  unfold mAppend at post
  split at post
  · rename_i n d' _
    obtain ⟨u, rfl, h1⟩ := rps1 rs
    unfold Rp at r
    obtain ⟨a, e1, rfl⟩ := r
    split at post
    · rename_i xs hs
      split at post
      · rename_i hl
        obtain ⟨h2, us, h3, h4⟩ := lc_of R hs e1
        refine ⟨a, us, u, rfl, rfl, h3, by rw [← h4.len]; exact lim_lt (Nat.le_of_lt hl), ?_⟩
        exact post .non _ ι F (Grow.refl _ _) (R.setC hs rfl e1 ⟨h2, _, upd_same, h4.app (.cons h1 .nil)⟩) (by unfold Rp; rfl)
      · exact post.elim
    · exact post.elim
  · exact post.elim
theorem dm_index : DenM T (rIndex T.K) mIndex := by
  intro d ds v vs H P ι F s Q E R r rs post
  unfold mIndex at post
  split at post
  · obtain ⟨u, rfl, h1⟩ := rps1 rs
    split at post
    · rename_i xs h
      obtain ⟨a, us, rfl, h2, h3⟩ := lq_of R r h
      split at post
      · rename_i hf
        simp only [Bool.and_eq_true] at hf
        split at post
        · rename_i j hj
          rw [List.findIdx?_eq_some_iff_getElem] at hj
          obtain ⟨hj1, hj2, hj3⟩ := hj
          have hd : xs[j]? = some xs[j] := List.getElem?_eq_getElem hj1
          obtain ⟨w, e1, e2⟩ := h3.get hd
          have fd : ∀ {m : Nat} (hm : m < xs.length), flatD xs[m] = true := fun {m} hm => List.all_eq_true.mp hf.2 _ (List.getElem_mem hm)
          refine ⟨a, us, u, j, w, rfl, rfl, h2, flat_ok h1 hf.1, flats_ok h3 hf.2, e1, by rw [eqF_ok e2 h1 (fd hj1) hf.1]; exact hj2, fun m z' hm hz => ?_, post.here R (by unfold Rp; rfl)⟩
          have hm' : m < xs.length := by omega
          obtain ⟨w2, e3, e4⟩ := h3.get (List.getElem?_eq_getElem hm')
          rw [hz] at e3
          cases e3
          rw [eqF_ok e4 h1 (fd hm') hf.1]
          have := hj3 m hm
          simpa using this
        · exact post.elim
      · exact post.elim
    · exact post.elim
  · exact post.elim
theorem dm_count : DenM T (rCntF T.K) mCount := by
  intro d ds v vs H P ι F s Q E R r rs post
  unfold mCount at post
  split at post
  · obtain ⟨u, rfl, h1⟩ := rps1 rs
    split at post
    · rename_i xs h
      obtain ⟨a, us, rfl, h2, h3⟩ := lq_of R r h
      split at post
      · rename_i hf
        simp only [Bool.and_eq_true] at hf
        refine ⟨a, us, u, rfl, rfl, h2, flat_ok h1 hf.1, flats_ok h3 hf.2, ?_⟩
        rw [cntF_ok h1 hf.1 h3 hf.2]
        exact post.here R (by unfold Rp; rfl)
      · exact post.elim
    · exact post.elim
  · exact post.elim
/-! ## texts' methods -/
def un (x : Str) : List Nat := x.cps.toList
theorem S_un (x : Str) : S (un x) = x := by
  obtain ⟨a⟩ := x
  simp [S, un]
/-- of a text and a whole number, of a text and a text, of a text alone -/
def mTxtI (c : List Nat → Int → Bool) (g : Str → Int → Str) : DM
  | .str a, [.int i], s => if c a i = true then .ok (.str (un (g (S a) i))) s else .stuck
  | _, _, _ => .stuck
def mZfill : DM := mTxtI (fun _ i => PadOk i) Txt.zfill
theorem dm_zfill : DenM T (fun x xs H Q => ∃ (a : Str) (i : Int), x = .str a ∧ xs = [.int i] ∧ PadOk i = true ∧ Q (.str (Txt.zfill a i)) H) mZfill := by
  intro d ds v vs H P ι F s Q E R r rs post
  unfold mZfill mTxtI at post
  split at post
  · obtain ⟨u, rfl, h1⟩ := rps1 rs
    unfold Rp at r h1
    split at post
    · rename_i hp
      exact ⟨_, _, r, by rw [h1], hp, post.here R (by unfold Rp; rw [S_un])⟩
    · exact post.elim
  · exact post.elim
/-- text.index(text) -/
def mSIndex : DM
  | .str a, [.str b], s => match Builtin.Str.occurrences (S a) (S b) 0 (S a).length 1 with
    | i :: _ => .ok (.int (i : Nat)) s
    | [] => .stuck
  | _, _, _ => .stuck
theorem dm_sindex : DenM T (fun x xs H Q => ∃ a b i rest, x = .str a ∧ xs = [.str b] ∧ Builtin.Str.occurrences a b 0 a.length 1 = i :: rest ∧ Q (.int (i : Nat)) H) mSIndex := by
  intro d ds v vs H P ι F s Q E R r rs post
  unfold mSIndex at post
  split at post
  · obtain ⟨u, rfl, h1⟩ := rps1 rs
    unfold Rp at r h1
    split at post
    · rename_i i rest ho
      exact ⟨_, _, i, rest, r, by rw [h1], ho, post.here R (by unfold Rp; rfl)⟩
    · exact post.elim
  · exact post.elim
def mFind : DM
  | .str a, [.str b], s => .ok (.int (Txt.find (S a) (S b))) s
  | _, _, _ => .stuck
theorem dm_find : DenM T (fun x xs H Q => ∃ a b, x = .str a ∧ xs = [.str b] ∧ Q (.int (Txt.find a b)) H) mFind := by
  intro d ds v vs H P ι F s Q E R r rs post
  unfold mFind at post
  split at post
  · obtain ⟨u, rfl, h1⟩ := rps1 rs
    unfold Rp at r h1
    exact ⟨_, _, r, by rw [h1], post.here R (by unfold Rp; rfl)⟩
  · exact post.elim
def mStarts : DM
  | .str a, [.str b], s => .ok (.bl (Txt.startswith (S a) (S b))) s
  | _, _, _ => .stuck
theorem dm_starts : DenM T (fun x xs H Q => ∃ a b, x = .str a ∧ xs = [.str b] ∧ Q (.bl (Txt.startswith a b)) H) mStarts := by
  intro d ds v vs H P ι F s Q E R r rs post
  unfold mStarts at post
  split at post
  · obtain ⟨u, rfl, h1⟩ := rps1 rs
    unfold Rp at r h1
    exact ⟨_, _, r, by rw [h1], post.here R (by unfold Rp; rfl)⟩
  · exact post.elim
def mPart : DM
  | .str a, [.str b], s => if (!(b.length == 0) && decide (a.length ≤ lim)) = true then .ok (.tup [.str (un (Txt.partition (S a) (S b)).1), .str (un (Txt.partition (S a) (S b)).2.1), .str (un (Txt.partition (S a) (S b)).2.2)]) s else .stuck
  | _, _, _ => .stuck
theorem dm_part : DenM T (fun x xs H Q => ∃ a b, x = .str a ∧ xs = [.str b] ∧ (b.length == 0) = false ∧ a.length ≤ sizeLine ∧
    ∀ p, H p = none → Q (.ref p) (upd H p (.tup [.str (Txt.partition a b).1, .str (Txt.partition a b).2.1, .str (Txt.partition a b).2.2]))) mPart := by
  intro d ds v vs H P ι F s Q E R r rs post
  unfold mPart at post
  split at post
  · obtain ⟨u, rfl, h1⟩ := rps1 rs
    unfold Rp at r h1
    split at post
    · rename_i hc
      simp only [Bool.and_eq_true, Bool.not_eq_true', decide_eq_true_eq] at hc
      refine ⟨_, _, r, by rw [h1], by rw [S_len]; exact hc.1, by rw [S_len]; exact lim_le hc.2, fun p hp => ?_⟩
      refine post.new R hp fun g => ?_
      unfold Rp
      refine ⟨p, _, rfl, upd_same, .cons ?_ (.cons ?_ (.cons ?_ .nil))⟩ <;> (unfold Rp; rw [S_un])
    · exact post.elim
  · exact post.elim
def mRepl : DM
  | .str a, [.str b, .str c], s => .stuck
  | _, _, _ => .stuck
def strsOf : List D → Option (List (List Nat))
  | [] => some []
  | .str x :: r => (strsOf r).map (x :: ·)
  | _ => none
theorem strs_ok {F : Hp} {ι : List Addr} : ∀ {ds : List D} {vs : List V} {ys : List (List Nat)}, Rps T F ι ds vs → strsOf ds = some ys → vs = (ys.map S).map V.str
  | [], vs, ys, r, e => by unfold Rps at r; subst r; cases e; rfl
  | d :: ds, vs, ys, r, e => by
    unfold Rps at r
    obtain ⟨v, us, rfl, h1, h2⟩ := r
    cases d with
    | str x =>
      have e' : (strsOf ds).map (x :: ·) = some ys := e
      cases q : strsOf ds with
      | none => rw [q] at e'; cases e'
      | some cs =>
        rw [q] at e'
        cases e'
        unfold Rp at h1
        rw [h1, strs_ok h2 q]
        rfl
    | _ => cases e
def mJoin : DM
  | .str a, [x], s => match (lqOf s x).or (tpOf x) with
    | some xs => match strsOf xs with
      | some ys => if (ys.map List.length).sum + ys.length * a.length ≤ lim then .ok (.str (un (Txt.join (S a) (ys.map S)))) s else .stuck
      | none => .stuck
    | none => .stuck
  | _, _, _ => .stuck
theorem dm_join : DenM T (fun x xs H Q => ∃ a p, ∃ ys : List Str, x = .str a ∧ xs = [.ref p] ∧ (SqL T.K H p (ys.map V.str) ∨ SqT T.K H p (ys.map V.str)) ∧
    (ys.map (·.length)).sum + ys.length * a.length ≤ 16777216 ∧ Q (.str (Txt.join a ys)) H) mJoin := by
  intro d ds v vs H P ι F s Q E R r rs post
  unfold mJoin at post
  split at post
  · obtain ⟨u, rfl, h1⟩ := rps1 rs
    unfold Rp at r
    split at post
    · rename_i xs h
      split at post
      · rename_i ys hy
        split at post
        · rename_i hl
          obtain ⟨a, us, rfl, h2, h3⟩ := lqtp_of R h1 h
          rw [strs_ok h3 hy] at h2
          refine ⟨_, a, ys.map S, r, rfl, h2, ?_, post.here R (by unfold Rp; rw [S_un])⟩
          have e1 : ((ys.map S).map (·.length)) = ys.map List.length := by
            rw [List.map_map]
            exact List.map_congr_left fun y _ => S_len y
          rw [e1, List.length_map, S_len]
          exact Nat.le_trans hl (by unfold lim; decide)
        · exact post.elim
      · exact post.elim
    · exact post.elim
  · exact post.elim
theorem rps_strs {F : Hp} {ι : List Addr} : ∀ (ys : List Str), Rps T F ι (ys.map fun y => D.str (un y)) (ys.map V.str)
  | [] => .nil
  | y :: ys => .cons (by unfold Rp; rw [S_un]) (rps_strs ys)
def mSplit : DM
  | .str a, [.str b], s => if (!(b.length == 0) && decide (a.length + 2 ≤ lim)) = true then .ok (.lst ((Txt.split (S a) (S b)).map fun y => D.str (un y))) s else .stuck
  | .str a, [], s => if a.length + 2 ≤ lim then .ok (.lst ((Txt.words (S a)).map fun y => D.str (un y))) s else .stuck
  | _, _, _ => .stuck
theorem new_strs {P : Hp} {ι : List Addr} {F : Hp} {s : Sto} {H : Hp} {Q : VK} {E : Nat → Hp → Prop} {ys : List Str} (R : RelH T P ι F s H) (post : Post T P (Rp T) Q E F ι (.ok (.lst (ys.map fun y => D.str (un y))) s)) : rNewStrs ys H Q := fun p hp => by
  refine post.new R hp fun g => ?_
  unfold Rp
  exact ⟨p, _, rfl, upd_same, rps_strs ys⟩
theorem dm_split : DenM T (fun x xs H Q => ∃ a b, x = .str a ∧ xs = [.str b] ∧ (b.length == 0) = false ∧ a.length + 2 ≤ sizeLine ∧ rNewStrs (Txt.split a b) H Q) (fun x ds s => match ds with | [] => .stuck | _ => mSplit x ds s) := by
  intro d ds v vs H P ι F s Q E R r rs post
  dsimp only at post
  split at post
  · exact post.elim
  · unfold mSplit at post
    split at post
    · obtain ⟨u, rfl, h1⟩ := rps1 rs
      unfold Rp at r h1
      split at post
      · rename_i hc
        simp only [Bool.and_eq_true, Bool.not_eq_true', decide_eq_true_eq] at hc
        exact ⟨_, _, r, by rw [h1], by rw [S_len]; exact hc.1, by rw [S_len]; exact lim_le hc.2, new_strs R post⟩
      · exact post.elim
    · rename_i hne
      exact absurd rfl hne
    · exact post.elim
theorem dm_words : DenM T (fun x xs H Q => ∃ a, x = .str a ∧ xs = [] ∧ a.length + 2 ≤ sizeLine ∧ rNewStrs (Txt.words a) H Q) (fun x ds s => match ds with | [] => mSplit x [] s | _ => .stuck) := by
  intro d ds v vs H P ι F s Q E R r rs post
  dsimp only at post
  split at post
  · unfold mSplit at post
    split at post
    · rename_i h
      cases h
    · unfold Rps at rs
      unfold Rp at r
      split at post
      · rename_i hc
        exact ⟨_, r, rs, by rw [S_len]; exact lim_le hc, new_strs R post⟩
      · exact post.elim
    · exact post.elim
  · exact post.elim
def mStrip : DM
  | .str a, [], s => if a.length ≤ lim then .ok (.str (un (Txt.strip (S a)))) s else .stuck
  | _, _, _ => .stuck
theorem dm_strip : DenM T (fun x xs H Q => ∃ a, x = .str a ∧ xs = [] ∧ a.length ≤ sizeLine ∧ Q (.str (Txt.strip a)) H) mStrip := by
  intro d ds v vs H P ι F s Q E R r rs post
  unfold mStrip at post
  split at post
  · unfold Rps at rs
    unfold Rp at r
    split at post
    · rename_i hc
      exact ⟨_, r, rs, by rw [S_len]; exact lim_le hc, post.here R (by unfold Rp; rw [S_un])⟩
    · exact post.elim
  · exact post.elim
/-! ## int, str, divmod -/
def bInt : DB
  | [.int i], s => .ok (.int i) s
  | [.bl b], s => .ok (.int (if b then 1 else 0)) s
  | [.str z], s => match PySem.intText? (S z) with
    | some n => if z.length ≤ 640 then .ok (.int n) s else .stuck
    | none => .stuck
  | _, _ => .stuck
def rIntA : List V → Hp → VK → Prop := fun xs H Q => ((∃ i, xs = [.int i] ∧ Q (.int i) H) ∨ ∃ k, xs = [.bl k] ∧ Q (.int (if k then 1 else 0)) H) ∨ (∃ a n, xs = [.str a] ∧ PySem.intText? a = some n ∧ a.length ≤ 640 ∧ Q (.int n) H)
theorem call_intA {X : Cx} : CallR X (.type "int") rIntA := CallR.or call_int1 call_int_str
theorem db_int : DenB T rIntA bInt := by
  intro ds vs H P ι F s Q E R r post
  unfold bInt at post
  split at post
  · obtain ⟨v, rfl, h1⟩ := rps1 r
    unfold Rp at h1
    exact .inl (.inl ⟨_, by rw [h1], post.here R (by unfold Rp; rfl)⟩)
  · obtain ⟨v, rfl, h1⟩ := rps1 r
    unfold Rp at h1
    exact .inl (.inr ⟨_, by rw [h1], post.here R (by unfold Rp; rfl)⟩)
  · obtain ⟨v, rfl, h1⟩ := rps1 r
    unfold Rp at h1
    split at post
    · rename_i n hn
      split at post
      · rename_i hl
        exact .inr ⟨_, _, by rw [h1], hn, by rw [S_len]; exact hl, post.here R (by unfold Rp; rfl)⟩
      · exact post.elim
    · exact post.elim
  · exact post.elim
def strI (i : Int) : List Nat := un (toString i : Str)
def bStr : DB
  | [.int i], s => if i.natAbs.log2 < 1920 then .ok (.str (strI i)) s else .stuck
  | _, _ => .stuck
theorem db_str : DenB T (fun xs H Q => ∃ i, xs = [.int i] ∧ i.natAbs.log2 < 1920 ∧ Q (.str (toString i)) H) bStr := by
  intro ds vs H P ι F s Q E R r post
  unfold bStr at post
  split at post
  · obtain ⟨v, rfl, h1⟩ := rps1 r
    unfold Rp at h1
    split at post
    · rename_i hl
      exact ⟨_, by rw [h1], hl, post.here R (by unfold Rp strI; rw [S_un])⟩
    · exact post.elim
  · exact post.elim
def bDivmod : DB
  | [.int i, .int j], s => if (decide (0 < j) && decide (j < 1073741824)) = true then .ok (.tup [.int (i / j), .int (i % j)]) s else .stuck
  | _, _ => .stuck
theorem db_divmod : DenB T (fun xs H Q => ∃ i j, xs = [.int i, .int j] ∧ CDiv i j ∧ ∀ p, H p = none → Q (.ref p) (upd H p (.tup [.int (i / j), .int (i % j)]))) bDivmod := by
  intro ds vs H P ι F s Q E R r post
  unfold bDivmod at post
  split at post
  · obtain ⟨v, u, rfl, h1, h2⟩ := rps2 r
    unfold Rp at h1 h2
    split at post
    · rename_i hc
      simp only [Bool.and_eq_true, decide_eq_true_eq] at hc
      refine ⟨_, _, by rw [h1, h2], hc, fun p hp => ?_⟩
      refine post.new R hp fun g => ?_
      unfold Rp
      exact ⟨p, _, rfl, upd_same, .cons (by unfold Rp; rfl) (.cons (by unfold Rp; rfl) .nil)⟩
    · exact post.elim
  · exact post.elim
/-! ## over a text -/
theorem walks_str {F : Hp} {ι : List Addr} (z : List Nat) : Walks T (Its (S z)) (z.map fun c => D.str [c]) F ι := by
  have w := walk_str (z := S z)
  unfold Walks
  have e0 : (S z).cps.size = z.length := by simp [S]
  rw [e0] at w
  rw [List.length_map]
  refine w.mono (fun H hF => trivial) fun i H x H' hi hF y => ?_
  obtain ⟨e1, c, e2, e3⟩ := y
  have e4 : z[i]? = some c := by simpa [S] using e2
  exact ⟨.str [c], by rw [List.getElem?_map, e4]; rfl, .inl ⟨e1, by unfold Rp; rw [e3]; rfl⟩⟩
/-- a list, a tuple, a text that stays -/
def itAny (f : DE) : DIt := fun δ s => (f δ s).bind fun x s1 => match x with
  | .lst xs => .ok xs s1
  | .scr ns => .ok (ns.map D.int) s1
  | .tup xs => .ok xs s1
  | .str z => .ok (z.map fun c => D.str [c]) s1
  | _ => .stuck
theorem den_iS {W : WX} {t : TE} {f : DE} (h : DenG T (Rp T) W t f) {σ : L2.St} {H P : Hp} {ι : List Addr} {F : Hp} {δ : Env} {s : Sto} {Q : It → Hp → Prop} (R : RelH T P ι F s H) (E : REnv T F ι δ σ)
    (post : Post T P (fun F ι ds J => Walks T J ds F ι) Q (fun c H' => W (.ref (T.ca c)) none σ H') F ι ((f δ s).bind fun x s1 => match x with
      | .str z => .ok (z.map fun c => D.str [c]) s1
      | _ => .stuck)) : iStr t σ H Q := by
  show t σ H _
  refine den_then h R E post fun x y H1 ι1 F1 s1 g R1 E1 r1 post1 => ?_
  cases x with
  | str z =>
    unfold Rp at r1
    exact ⟨S z, r1, post1.here R1 (walks_str z)⟩
  | _ => exact post1.elim
theorem i_any {X : Cx} {tg e : Expr} {f : DE} (h : PDe T X e f) (hK : X.K = T.K := by rfl) : PDi T X tg e (itAny f) := fun pn xe W tk => by
  obtain ⟨t1, p1, d1⟩ := h pn xe W tk
  have hK' : (X.tr pn xe).K = T.K := hK
  refine ⟨_, PI.or (PI.or (pi_list p1) (pi_tup p1)) (pi_str p1), fun σ H P ι F δ s Q R E post => ?_⟩
  rw [hK']
  unfold itAny at post
  cases e : f δ s with
  | ok x s1 =>
    rw [e] at post
    cases x with
    | lst xs => exact .inl (.inl (den_iL d1 R E (by rw [e]; exact post)))
    | scr ns => exact .inl (.inl (den_iL d1 R E (by rw [e]; exact post)))
    | tup xs => exact .inl (.inr (den_iT d1 R E (by rw [e]; exact post)))
    | str z => exact .inr (den_iS d1 R E (by rw [e]; exact post))
    | _ => exact post.elim
  | exc c s1 => rw [e] at post; exact .inl (.inl (den_iL d1 R E (by rw [e]; exact post)))
  | stuck => rw [e] at post; exact post.elim
/-! ## in, of lists, tuples and texts -/
def oInA (neg : Bool) : DOp
  | .str [c], .str z, s => .ok (.bl (neg != decide (c ∈ z))) s
  | x, y, s => oIn neg x y s
theorem do_inA : DenOp T (orR rInS (rIn T.K false)) (oInA false) := by
  intro x y dx dy H P ι F s Q E R rx ry post
  unfold oInA at post
  split at post
  · exact .inl (do_inS x y _ _ H P ι F s Q E R rx ry post)
  · exact .inr (do_in x y _ _ H P ι F s Q E R rx ry post)
theorem do_notInA : DenOp T (orR rNotInS (rIn T.K true)) (oInA true) := by
  intro x y dx dy H P ι F s Q E R rx ry post
  unfold oInA at post
  split at post
  · exact .inl (do_notInS x y _ _ H P ι F s Q E R rx ry post)
  · exact .inr (do_in x y _ _ H P ι F s Q E R rx ry post)
theorem op_inA {X : Cx} : OpR X (compareOp .In) (orR rInS (rIn X.K false)) := OpR.or op_in_sign op_in_seq
theorem op_notInA {X : Cx} : OpR X (compareOp .NotIn) (orR rNotInS (rIn X.K true)) := OpR.or op_notIn_sign op_notIn_seq
/-! ## f-strings of texts and whole numbers -/
def dFmt (f : DE) : DE := fun δ s => (f δ s).bind fun x s1 => match x with
  | .str z => if z.length ≤ lim then .ok (.str z) s1 else .stuck
  | .int i => if i.natAbs.log2 < 1920 then .ok (.str (strI i)) s1 else .stuck
  | _ => .stuck
def dJs : List DE → List Nat → DE
  | [], acc, _, s => .ok (.str acc) s
  | f :: fs, acc, δ, s => (f δ s).bind fun x s1 => match x with
    | .str z => if (acc ++ z).length ≤ lim then dJs fs (acc ++ z) δ s1 else .stuck
    | _ => .stuck
section
variable {X : Cx}
theorem d_fmt {e : Expr} {pos : Pos} {f : DE} (h : PDe T X e f) : PDe T X (.FormattedValue e (-1) none pos) (dFmt f) := fun pn xe W tk => by
  obtain ⟨t1, p1, d1⟩ := h pn xe W tk
  refine ⟨_, pe_fmt p1, fun σ H P ι F δ s Q R E post => ?_⟩
  show t1 σ H _
  refine den_then d1 R E post fun x y H1 ι1 F1 s1 g1 R1 E1 r1 post1 => ?_
  split at post1
  · split at post1
    · rename_i hl
      unfold Rp at r1
      exact .inl ⟨_, r1, by rw [S_len]; exact lim_le hl, post1.here R1 (by unfold Rp; rfl)⟩
    · exact post1.elim
  · split at post1
    · rename_i hl
      unfold Rp at r1
      exact .inr ⟨_, r1, hl, post1.here R1 (by unfold Rp strI; rw [S_un])⟩
    · exact post1.elim
  · exact post1.elim
inductive PDj (T : Tb) (X : Cx) : List Expr → List DE → Prop where
  | nil : PDj T X [] []
  | cons {e : Expr} {f : DE} {es : List Expr} {fs : List DE} (h : PDe T X e f) (r : PDj T X es fs) : PDj T X (e :: es) (f :: fs)
def DenJ (T : Tb) (W : WX) (ts : List TE) (fs : List DE) : Prop := ∀ acc σ H P ι F δ s (Q : V → Hp → Prop), RelH T P ι F s H → REnv T F ι δ σ → Post T P (Rp T) Q (fun c H' => W (.ref (T.ca c)) none σ H') F ι (dJs fs acc δ s) → tJs ts (S acc) σ H fun out H' => Q (.str out) H'
theorem pj_of {es : List Expr} {fs : List DE} (h : PDj T X es fs) : ∀ pn xe W, Takes (X.tr pn xe) W → ∃ ts, PJ (X.tr pn xe) es ts ∧ DenJ T W ts fs := by
  induction h with
  | nil => exact fun pn xe W tk => ⟨_, .nil, fun acc σ H P ι F δ s Q R E post => post.here R (by unfold Rp; rfl)⟩
  | cons h r ih =>
    intro pn xe W tk
    obtain ⟨t1, p1, d1⟩ := h pn xe W tk
    obtain ⟨ts, p2, d2⟩ := ih pn xe W tk
    refine ⟨_, .cons p1 p2, fun acc σ H P ι F δ s Q R E post => ?_⟩
    unfold dJs at post
    show t1 σ H _
    refine den_then d1 R E post fun x y H1 ι1 F1 s1 g1 R1 E1 r1 post1 => ?_
    split at post1
    · split at post1
      · rename_i z hl
        unfold Rp at r1
        refine ⟨_, r1, by rw [S_cat, S_len]; exact lim_le hl, ?_⟩
        rw [S_cat]
        exact d2 _ _ _ _ _ _ _ _ _ R1 E1 post1
      · exact post1.elim
    · exact post1.elim
theorem d_joined {v1 v2 : Expr} {rest : List Expr} {pos : Pos} {fs : List DE} (h : PDj T X (v1 :: v2 :: rest) fs) : PDe T X (.JoinedStr (v1 :: v2 :: rest) pos) (dJs fs []) := fun pn xe W tk => by
  obtain ⟨ts, p, d⟩ := pj_of h pn xe W tk
  refine ⟨_, pe_joined p, fun σ H P ι F δ s Q R E post => ?_⟩
  exact d [] _ _ _ _ _ _ _ _ R E post
theorem d_joined1 {e : Expr} {pos : Pos} {f : DE} (h : PDe T X e f) : PDe T X (.JoinedStr [e] pos) f := fun pn xe W tk => by
  obtain ⟨t1, p1, d1⟩ := h pn xe W tk
  exact ⟨_, pe_joined1 p1, d1⟩
end
end
end Mp
/-! # MpI -/
namespace Mp
open PySem PySem.Spec L2
/-! ## text.replace of written texts, behind a first item that gives out a token -/
/-- a token is out behind it -/
def PEk (X : Cx) (e : Expr) (t : TE) : Prop := ∀ (pins : List (Addr × Obj)) (s : Shared) (σ : L2.St) (H : Hp) (Q : VK), Inv X pins σ H s → t σ H Q → wpAny (model X.prog X.w) X.A (eval e X.env) (fun v s1 => 1 ≤ s1.toks ∧ EP X pins σ Q v s1) X.xe s
theorem pek_str {X : Cx} {x : Str} {j : Nat} {pos : Pos} : PEk X (.Constant (.str x) j pos) (tC (.str x)) := fun pins s σ H Q I h => Calls.Constant_str ⟨by show 1 ≤ s.toks + 1; omega, .str x, H, I.tok _, ⟨_, rfl⟩, h⟩
theorem pek_op {X : Cx} {a b : Expr} {op : Operator} {r : R2} {ta tb : TE} {pos : Pos} (ho : OpR X (binaryOp op) r) (ha : PEk X a ta) (hb : PE X b tb) : PEk X (.BinOp a op b pos) (tOp r ta tb) := by
  intro pins s σ H Q I h
  refine wpAny_BinOp (thn (ha pins s σ H _ I h) fun v s1 q => ?_)
  obtain ⟨h1, x, H1, I1, r1, q1⟩ := q
  refine wpAny_mono (PySem.wpAny_toks (hb.run pins s1 σ H1 _ I1 q1)) (fun u s2 q => ?_) fun _ _ z => z.2
  obtain ⟨hk, y, H2, I2, r2, q2⟩ := q
  refine wpAny_mono (PySem.wpAny_toks (ho pins s2 σ H2 x y v u Q I2 r1 r2 q2)) (fun w s3 q => ?_) fun _ _ z => z.2
  exact ⟨Nat.le_trans h1 (Nat.le_trans hk q.1), q.2⟩
theorem pa_tok {X : Cx} {e : Expr} {es : List Expr} {te : TE} {ta : TA} (ha : PEk X e te) (hr : PAT X es ta) (hs : starEach (e :: es) X.env = (false, eval e X.env) :: starEach es X.env := by rfl) : PA X (e :: es) (tCons te ta) := by
  refine ⟨fun pos pins s σ H Q I h => ?_⟩
  rw [hs]
  show wpAny _ _ (spliced ((false, eval e X.env) :: backTo pos (starEach es X.env))) _ _ s
  refine Calls.spliced_cons (thn (ha pins s σ H _ I h) fun v s1 q => ?_)
  obtain ⟨h0, x, H1, I1, r1, q1⟩ := q
  exact thn (hr pos pins s1 σ H1 _ h0 I1 q1) fun us s2 ⟨xs, H2, I2, r2, q2⟩ => ⟨x :: xs, H2, I2, .cons r1 r2, q2⟩
def PDk (T : Tb) (X : Cx) (e : Expr) (f : DE) : Prop := ∀ pn xe W, Takes (X.tr pn xe) W → ∃ t, PEk (X.tr pn xe) e t ∧ DenG T (Rp T) W t f
def PDeT (T : Tb) (X : Cx) (e : Expr) (f : DE) : Prop := ∀ pn xe W, Takes (X.tr pn xe) W → ∃ t, PET (X.tr pn xe) e t ∧ DenG T (Rp T) W t f
def PDaT (T : Tb) (X : Cx) (es : List Expr) (f : DA) : Prop := ∀ pn xe W, Takes (X.tr pn xe) W → ∃ t, PAT (X.tr pn xe) es t ∧ DenG T (RpsN T es.length) W t f
def dRepl (y z : Str) (f : DE) : DE := fun δ s => (f δ s).bind fun x s1 => match x with
  | .str a => if a.length + (a.length + 1) * z.length ≤ lim then .ok (.str (un (Txt.replace (S a) y z))) s1 else .stuck
  | _ => .stuck
section
variable {T : Tb} {X : Cx}
theorem k_str {x : Str} {j pos} (cs : List Nat) (h : x = S cs) : PDk T X (.Constant (.str x) j pos) (dC (.str cs)) := fun pn xe W _ => ⟨_, pek_str, den_c fun _ _ => by unfold Rp; rw [h]⟩
theorem k_op {a b : Expr} {pos : Pos} {op : Operator} {r : R2} {o : DOp} {fa fb : DE} (hr : ∀ pn xe, OpR (X.tr pn xe) (binaryOp op) r) (ho : DenOp T r o) (ha : PDk T X a fa) (hb : PDe T X b fb) : PDk T X (.BinOp a op b pos) (dOp o fa fb) := fun pn xe W tk => by
  obtain ⟨t1, p1, d1⟩ := ha pn xe W tk
  obtain ⟨t2, p2, d2⟩ := hb pn xe W tk
  exact ⟨_, pek_op (hr pn xe) p1 p2, den_op ho d1 d2⟩
theorem eT_of {e : Expr} {f : DE} (h : PDe T X e f) : PDeT T X e f := fun pn xe W tk => by
  obtain ⟨t1, p1, d1⟩ := h pn xe W tk
  exact ⟨t1, CwR.PET.of p1, d1⟩
theorem eT_repl {o : Expr} {y z : Str} {j k : Nat} {c0 c1 apos pos : Pos} {f : DE} (ho : PDe T X o f) (hyz : (y == z) = false := by decide)
    (hst : starEach [.Constant (.str y) j c0, .Constant (.str z) k c1] X.env = [(false, eval (.Constant (.str y) j c0) X.env), (false, eval (.Constant (.str z) k c1) X.env)] := by rfl)
    (hbase : attributeBase o "replace" X.env (eval o X.env) = eval o X.env := by rfl) (hline : (apos.endLine == pos.line) = true := by rfl) :
    PDeT T X (.Call (.Attribute o "replace" apos) [.Constant (.str y) j c0, .Constant (.str z) k c1] [] pos) (dRepl y z f) := fun pn xe W tk => by
  obtain ⟨t1, p1, d1⟩ := ho pn xe W tk
  refine ⟨_, CwR.pet_replC (X := X.tr pn xe) p1 hyz hst hbase hline, fun σ H P ι F δ s Q R E post => ?_⟩
  show t1 σ H _
  refine den_then d1 R E post fun x y1 H1 ι1 F1 s1 g1 R1 E1 r1 post1 => ?_
  split at post1
  · split at post1
    · rename_i hl
      unfold Rp at r1
      exact ⟨_, r1, by rw [S_len]; exact Nat.le_trans hl (by unfold lim; decide), post1.here R1 (by unfold Rp; rw [S_un])⟩
    · exact post1.elim
  · exact post1.elim
theorem aT_nil : PDaT T X [] aNil := fun pn xe W _ => ⟨_, pat_nil, fun _ _ _ _ _ _ _ _ R _ post => post.here R ⟨.nil, rfl⟩⟩
theorem den_cons {W : WX} {n : Nat} {t1 : TE} {t2 : TA} {f : DE} {g : DA} (d1 : DenG T (Rp T) W t1 f) (d2 : DenG T (RpsN T n) W t2 g) : DenG T (RpsN T (n + 1)) W (tCons t1 t2) (aCons f g) := fun σ H P ι F δ s Q R E post => by
  show t1 σ H _
  refine den_then d1 R E post fun x y H1 ι1 F1 s1 g1 R1 E1 r1 post1 => ?_
  refine den_then d2 R1 E1 post1 fun xs ys H2 ι2 F2 s2 g2 R2 E2 r2 post2 => ?_
  exact post2.here R2 ⟨.cons (r1.mono g2) r2.1, congrArg Nat.succ r2.2⟩
theorem aT_cons {e : Expr} {es : List Expr} {f : DE} {g : DA} (he : PDeT T X e f) (hr : PDaT T X es g) (hs : starEach (e :: es) X.env = (false, eval e X.env) :: starEach es X.env := by rfl) : PDaT T X (e :: es) (aCons f g) := fun pn xe W tk => by
  obtain ⟨t1, p1, d1⟩ := he pn xe W tk
  obtain ⟨t2, p2, d2⟩ := hr pn xe W tk
  exact ⟨_, pat_cons (X := X.tr pn xe) p1 p2 hs, den_cons d1 d2⟩
theorem a_tok {e : Expr} {es : List Expr} {f : DE} {g : DA} (he : PDk T X e f) (hr : PDaT T X es g) (hs : starEach (e :: es) X.env = (false, eval e X.env) :: starEach es X.env := by rfl) : PDa T X (e :: es) (aCons f g) := fun pn xe W tk => by
  obtain ⟨t1, p1, d1⟩ := he pn xe W tk
  obtain ⟨t2, p2, d2⟩ := hr pn xe W tk
  exact ⟨_, pa_tok (X := X.tr pn xe) p1 p2 hs, den_cons d1 d2⟩
end
/-! ## a list, so many times -/
def oMulA : DOp
  | .int a, .int b, s => if cMul a b = true then .ok (.int (a * b)) s else .stuck
  | x, .int k, s => match lsOf s x with
    | some xs => if xs.length * k.toNat ≤ lim ∧ -(2 ^ 62) ≤ k ∧ k < 2 ^ 62 then .ok (.lst (List.replicate k.toNat xs).flatten) s else .stuck
    | none => .stuck
  | _, _, _ => .stuck
def rMulA : R2 := orR (rI CMul fun i j => .int (i * j)) rRep
theorem op_mulA {X : Cx} : OpR X (binaryOp .Mult) rMulA := OpR.or op_mul op_rep
section
variable {T : Tb}
theorem rps_rep {F : Hp} {ι : List Addr} {xs : List D} {vs : List V} (r : Rps T F ι xs vs) : ∀ k : Nat, Rps T F ι (List.replicate k xs).flatten (List.replicate k vs).flatten
  | 0 => .nil
  | k + 1 => by
    rw [List.replicate_succ, List.replicate_succ, List.flatten_cons, List.flatten_cons]
    exact r.app (rps_rep r k)
theorem do_mulA : DenOp T rMulA oMulA := by
  intro x y dx dy H P ι F s Q E R rx ry post
  unfold oMulA at post
  split at post
  · split at post
    · rename_i hc
      unfold Rp at rx ry
      refine .inl ⟨_, _, rx, ry, ?_, post.here R (by unfold Rp; rfl)⟩
      unfold cMul at hc
      unfold CMul
      simp only [Bool.or_eq_true, Bool.and_eq_true, decide_eq_true_eq] at hc
      exact hc
    · exact post.elim
  · split at post
    · rename_i xs hx
      split at post
      · rename_i hl
        obtain ⟨p, vs, rfl, e1, e2⟩ := ls_of R rx hx
        unfold Rp at ry
        refine .inr ⟨p, _, vs, rfl, ry, e1, by omega, by omega, by rw [← e2.len]; exact lim_le hl.1, fun l hp => ?_⟩
        refine post.new R hp fun g => ?_
        unfold Rp
        exact ⟨l, _, rfl, upd_same, (rps_rep e2 _).mono g⟩
      · exact post.elim
    · exact post.elim
  · exact post.elim
end
end Mp
/-! # MpJ -/
namespace Mp
open PySem PySem.Spec L2 PyProof.Rows
/-! ## objects of own classes -/
structure ObT (K : PySem.W.Frag) (ca : Nat → Addr) (fm : Nat → Str) (cs : List Nat) (nF : Nat) : Prop where
  cls : ∀ c ∈ cs, Cls K (ca c)
  noat : ∀ c ∈ cs, ∀ i, i < nF → NoAttr K (ca c) (fm i)
  inj : ∀ i, i < nF → ∀ j, j < nF → fm i = fm j → i = j
  ha : ∀ c ∈ cs, PySem.W.findIn K (.ref (ca c)) "__class__" = some (some (.builtin "object.__class__"))
  hn : PySem.W.specialIn K (.builtin "object.__class__") "__get__" = some (some (.builtin "getset_descriptor.__get__"))
  htk : PySem.W.takesIn K (.builtin "object.__class__") = some true
  hm : ∀ c ∈ cs, PySem.W.mroIn K (ca c) (.type "object") = some true
def ob1 (K : PySem.W.Frag) (C : Addr) (fm : Nat → Str) (nF : Nat) : Bool :=
  PySem.W.plainGet K C Str.empty && (PySem.W.hasDictIn K C && (PySem.W.plainOver K C && (decide (PySem.W.findIn K (.ref C) "__setattr__" = some (some (.builtin "object.__setattr__"))) &&
  (decide (PySem.W.findIn K (.ref C) "__class__" = some (some (.builtin "object.__class__"))) && (decide (PySem.W.mroIn K C (.type "object") = some true) && (List.range nF).all fun i => decide (PySem.W.findIn K (.ref C) (fm i) = some none))))))
def obB (ca : PySem.W.Frag → Nat → Addr) (fm : Nat → Str) (cs : List Nat) (nF : Nat) (K : PySem.W.Frag) : Bool :=
  decide (PySem.W.specialIn K (.builtin "object.__class__") "__get__" = some (some (.builtin "getset_descriptor.__get__"))) && (decide (PySem.W.takesIn K (.builtin "object.__class__") = some true) && cs.all fun c => ob1 K (ca K c) fm nF)
theorem obT_of {ca : PySem.W.Frag → Nat → Addr} {fm : Nat → Str} {cs : List Nat} {nF : Nat} {K : PySem.W.Frag} (h : obB ca fm cs nF K = true) (inj : ∀ i, i < nF → ∀ j, j < nF → fm i = fm j → i = j) : ObT K (ca K) fm cs nF := by
  unfold obB at h
  simp only [Bool.and_eq_true, decide_eq_true_eq] at h
  obtain ⟨h1, h2, h3⟩ := h
  rw [List.all_eq_true] at h3
  have one : ∀ c ∈ cs, ob1 K (ca K c) fm nF = true := h3
  have go : ∀ c ∈ cs, Cls K (ca K c) ∧ PySem.W.findIn K (.ref (ca K c)) "__class__" = some (some (.builtin "object.__class__")) ∧ PySem.W.mroIn K (ca K c) (.type "object") = some true ∧ ∀ i, i < nF → NoAttr K (ca K c) (fm i) := fun c hc => by
    have z := one c hc
    unfold ob1 at z
    simp only [Bool.and_eq_true, decide_eq_true_eq] at z
    obtain ⟨z1, z2, z3, z4, z5, z6, z7⟩ := z
    rw [List.all_eq_true] at z7
    exact ⟨⟨z1, z2, z3, z4⟩, z5, z6, fun i hi => of_decide_eq_true (p := PySem.W.findIn K (.ref (ca K c)) (fm i) = some none) (z7 i (List.mem_range.mpr hi))⟩
  exact ⟨fun c hc => (go c hc).1, fun c hc => (go c hc).2.2.2, inj, fun c hc => (go c hc).2.1, h1, h2, fun c hc => (go c hc).2.2.1⟩
def obOf (s : Sto) : D → Option (Nat × List Nat × List D)
  | .obj c ns vs => some (c, ns, vs)
  | .loc n => match s[n]? with
    | some (.obj c ns vs) => some (c, ns, vs)
    | _ => none
  | _ => none
/-- the field i -/
def lkF (i : Nat) : List Nat → List D → Option D
  | n :: ns, v :: vs => if n = i then some v else lkF i ns vs
  | _, _ => none
/-- the field i is set -/
def putN (i : Nat) : List Nat → List Nat
  | [] => [i]
  | n :: ns => if n = i then n :: ns else n :: putN i ns
def putD (i : Nat) (d : D) : List Nat → List D → List D
  | n :: ns, v :: vs => if n = i then d :: vs else v :: putD i d ns vs
  | _, _ => [d]
section
variable {T : Tb}
theorem ob_of {P : Hp} {ι : List Addr} {F : Hp} {s : Sto} {H : Hp} {d : D} {v : V} {c : Nat} {ns : List Nat} {vs : List D} (R : RelH T P ι F s H) (r : Rp T F ι d v) (h : obOf s d = some (c, ns, vs)) :
    ∃ a dx fs, v = .ref a ∧ H a = some (.ins (T.ca c) dx fs) ∧ fs.map (·.1) = ns.map T.fm ∧ Rps T F ι vs (fs.map (·.2)) := by
  unfold obOf at h
  split at h
  · cases h
    unfold Rp at r
    obtain ⟨a, dx, fs, h1, h2, h3, h4⟩ := r
    exact ⟨a, dx, fs, h1, R.sub _ _ h2, h3, h4⟩
  · unfold Rp at r
    obtain ⟨a, e1, rfl⟩ := r
    split at h
    · rename_i hs
      cases h
      obtain ⟨_, dx, fs, h2, h3, h4⟩ := R.cell _ _ _ hs e1
      exact ⟨a, dx, fs, rfl, h2, h3, h4⟩
    · cases h
  · cases h
theorem lk_ok {fm : Nat → Str} {nF i : Nat} (inj : ∀ i, i < nF → ∀ j, j < nF → fm i = fm j → i = j) (hi : i < nF) {F : Hp} {ι : List Addr} {d : D} : ∀ {ns : List Nat} {vs : List D} {fs : List (Str × V)}, (∀ n ∈ ns, n < nF) → fs.map (·.1) = ns.map fm → Rps T F ι vs (fs.map (·.2)) → lkF i ns vs = some d → ∃ v, fs.lookup (fm i) = some v ∧ Rp T F ι d v
  | [], vs, fs, _, _, _, h => by cases vs <;> cases h
  | n :: ns, [], fs, _, _, _, h => by cases h
  | n :: ns, v :: vs, fs, hn, e, r, h => by
    cases fs with
    | nil => cases e
    | cons f fs =>
      obtain ⟨g, x⟩ := f
      rw [List.map_cons, List.map_cons] at e
      injection e with e1 e2
      unfold Rps at r
      obtain ⟨u, us, e3, r1, r2⟩ := r
      rw [List.map_cons] at e3
      injection e3 with e4 e5
      subst e4 e5
      have h' : (if n = i then some v else lkF i ns vs) = some d := h
      by_cases c : n = i
      · rw [if_pos c] at h'
        cases h'
        have e1' : g = fm i := by rw [← c]; exact e1
        refine ⟨x, ?_, r1⟩
        rw [List.lookup_cons, e1']
        simp
      · rw [if_neg c] at h'
        obtain ⟨w, h1, h2⟩ := lk_ok inj hi (fun m hm => hn m (List.mem_cons_of_mem _ hm)) e2 r2 h'
        refine ⟨w, ?_, h2⟩
        have ne : (fm i == g) = false := by
          rw [beq_eq_false_iff_ne]
          intro z
          have e1' : g = fm n := e1
          rw [e1'] at z
          exact c (inj _ hi _ (hn n List.mem_cons_self) z).symm
        rw [List.lookup_cons, ne]
        exact h1
theorem lk_none {fm : Nat → Str} {m : Str} : ∀ {ns : List Nat} {fs : List (Str × V)}, (∀ n ∈ ns, fm n ≠ m) → fs.map (·.1) = ns.map fm → fs.lookup m = none
  | [], fs, _, e => by
    cases fs with
    | nil => rfl
    | cons f fs => cases e
  | n :: ns, fs, hn, e => by
    cases fs with
    | nil => cases e
    | cons f fs =>
      obtain ⟨g, x⟩ := f
      rw [List.map_cons, List.map_cons] at e
      injection e with e1 e2
      have e1' : g = fm n := e1
      rw [List.lookup_cons, e1']
      have ne : (m == fm n) = false := by
        rw [beq_eq_false_iff_ne]
        exact fun z => hn n List.mem_cons_self z.symm
      rw [ne]
      exact lk_none (fun m hm => hn m (List.mem_cons_of_mem _ hm)) e2
theorem put_ok {fm : Nat → Str} {nF i : Nat} (inj : ∀ i, i < nF → ∀ j, j < nF → fm i = fm j → i = j) (hi : i < nF) {F : Hp} {ι : List Addr} {d : D} {v : V} (rd : Rp T F ι d v) : ∀ {ns : List Nat} {vs : List D} {fs : List (Str × V)}, (∀ n ∈ ns, n < nF) → fs.map (·.1) = ns.map fm → Rps T F ι vs (fs.map (·.2)) →
    (putF (fm i) v fs).map (·.1) = (putN i ns).map fm ∧ Rps T F ι (putD i d ns vs) ((putF (fm i) v fs).map (·.2))
  | [], vs, fs, _, e, r => by
    cases fs with
    | cons f fs => cases e
    | nil =>
      have : vs = [] := by
        cases vs with
        | nil => rfl
        | cons _ _ => unfold Rps at r; obtain ⟨_, _, z, _⟩ := r; cases z
      subst this
      exact ⟨rfl, .cons rd .nil⟩
  | n :: ns, vs, fs, hn, e, r => by
    cases fs with
    | nil => cases e
    | cons f fs =>
      obtain ⟨g, x⟩ := f
      rw [List.map_cons, List.map_cons] at e
      injection e with e1 e2
      have e1' : g = fm n := e1
      cases vs with
      | nil => unfold Rps at r; cases r
      | cons w vs =>
        unfold Rps at r
        obtain ⟨u, us, e3, r1, r2⟩ := r
        rw [List.map_cons] at e3
        injection e3 with e4 e5
        subst e4 e5
        unfold putF putN putD
        by_cases c : n = i
        · have e6 : g = fm i := by rw [e1', c]
          rw [if_pos e6, if_pos c, if_pos c]
          exact ⟨by rw [List.map_cons, List.map_cons, e2, e1'], .cons rd r2⟩
        · have e6 : ¬ g = fm i := fun z => c (inj _ (hn n List.mem_cons_self) _ hi (by rw [← e1']; exact z))
          rw [if_neg e6, if_neg c, if_neg c]
          obtain ⟨h1, h2⟩ := put_ok inj hi rd (fun m hm => hn m (List.mem_cons_of_mem _ hm)) e2 r2
          exact ⟨by rw [List.map_cons, List.map_cons, h1, e1'], .cons r1 h2⟩
end
/-! ## e.f, e.f = v -/
def okN (nF : Nat) (ns : List Nat) : Bool := ns.all fun n => decide (n < nF)
theorem okN_ok {nF : Nat} {ns : List Nat} (h : okN nF ns = true) : ∀ n ∈ ns, n < nF := fun n hn => of_decide_eq_true (List.all_eq_true.mp h n hn)
def dFld (cs : List Nat) (nF i : Nat) (f : DE) : DE := fun δ s => (f δ s).bind fun x s1 => match obOf s1 x with
  | some (c, ns, vs) => if (decide (c ∈ cs) && okN nF ns) = true then match lkF i ns vs with
    | some d => .ok d s1
    | none => .stuck
    else .stuck
  | none => .stuck
section
variable {T : Tb} {X : Cx} {cs : List Nat} {nF : Nat}
theorem d_fld {e : Expr} {f : Str} {pos : Pos} {g : DE} (i : Nat) (ob : ObT T.K T.ca T.fm cs nF) (he : PDe T X e g) (hf : f = T.fm i := by rfl) (hi : i < nF := by decide) (hb : attributeBase e f X.env (eval e X.env) = eval e X.env := by rfl) (hK : X.K = T.K := by rfl) :
    PDe T X (.Attribute e f pos) (dFld cs nF i g) := fun pn xe W tk => by
  obtain ⟨t1, p1, d1⟩ := he pn xe W tk
  refine ⟨_, pe_fld (X := X.tr pn xe) p1 hb, fun σ H P ι F δ s Q R E post => ?_⟩
  have hK' : (X.tr pn xe).K = T.K := hK
  rw [hK']
  show t1 σ H _
  refine den_then d1 R E post fun x y H1 ι1 F1 s1 g1 R1 E1 r1 post1 => ?_
  cases q : obOf s1 x with
  | none => rw [q] at post1; exact post1.elim
  | some z =>
    obtain ⟨c, ns, vs⟩ := z
    rw [q] at post1
    dsimp only at post1
    split at post1
    · rename_i hc
      simp only [Bool.and_eq_true, decide_eq_true_eq] at hc
      split at post1
      · rename_i d hd
        obtain ⟨a, dx, fs, rfl, h2, h3, h4⟩ := ob_of R1 r1 q
        obtain ⟨v, h5, h6⟩ := lk_ok ob.inj hi (okN_ok hc.2) h3 h4 hd
        exact ⟨a, _, dx, fs, v, rfl, h2, ob.cls c hc.1, by rw [hf]; exact ob.noat c hc.1 i hi, by rw [hf]; exact h5, post1.here R1 h6⟩
      · exact post1.elim
    · exact post1.elim
/-- o.f = v, o a cell -/
def sFldS (cs : List Nat) (nF i : Nat) (fv fo : DE) : DS := fun δ s => (fv δ s).out δ fun d s1 => (fo δ s1).out δ fun o s2 => match o with
  | .loc n => match s2[n]? with
    | some (.obj c ns vs) => if (decide (c ∈ cs) && (okN nF ns && decide (ns.length < 1000))) = true then .nx δ (s2.set n (.obj c (putN i ns) (putD i d ns vs))) else .stuck
    | _ => .stuck
  | _ => .stuck
theorem s_fld {o value : Expr} {f : Str} {pos pos' : Pos} {fv fo : DE} (i : Nat) (ob : ObT T.K T.ca T.fm cs nF) (hv : PDe T X value fv) (ho : PDe T X o fo) (hf : f = T.fm i := by rfl) (hi : i < nF := by decide)
    (hs : swapsWith value (some (.Attribute o f pos')) pos.line X.env = pure false := by rfl) (hK : X.K = T.K := by rfl) : PDs T X (.Assign [.Attribute o f pos'] value pos) (sFldS cs nF i fv fo) := fun pn xe W tk _ => by
  obtain ⟨t1, p1, d1⟩ := hv pn xe W tk
  obtain ⟨t2, p2, d2⟩ := ho pn xe W tk
  refine ⟨_, ps_fld (X := X.tr pn xe) p2 p1 hs, fun En σ H P ι F δ s R E post => ?_⟩
  have hK' : (X.tr pn xe).K = T.K := hK
  rw [hK']
  show t1 σ H _
  refine dens_then d1 R E post fun x y H1 ι1 F1 s1 g1 R1 E1 r1 post1 => ?_
  refine dens_then d2 R1 E1 post1 fun x2 y2 H2 ι2 F2 s2 g2 R2 E2 r2 post2 => ?_
  split at post2
  · rename_i n
    split at post2
    · rename_i c ns vs hs2
      split at post2
      · rename_i hc
        simp only [Bool.and_eq_true, decide_eq_true_eq] at hc
        unfold Rp at r2
        obtain ⟨a, e1, rfl⟩ := r2
        obtain ⟨h1, dx, fs, h2, h3, h4⟩ := R2.cell _ _ _ hs2 e1
        have hl : fs.length = ns.length := by
          have := congrArg List.length h3
          simpa using this
        obtain ⟨h5, h6⟩ := put_ok ob.inj hi (r1.mono g2) (okN_ok hc.2.1) h3 h4
        refine ⟨a, _, dx, fs, rfl, h2, ob.cls c hc.1, by rw [hf]; exact ob.noat c hc.1 i hi, by rw [hl]; exact hc.2.2, ?_⟩
        rw [hf]
        exact post2 σ _ ι2 F2 (Grow.refl _ _) (R2.setC hs2 rfl e1 ⟨h1, dx, _, upd_same, h5, h6⟩) E2
      · exact post2.elim
    · exact post2.elim
  · exact post2.elim
end
/-! ## methods -/
/-- the class c has, under m, the def that does what φ tells -/
structure Mc (T : Tb) (P : Program) (w : World) (mg : Str → Option Value) (base : Heap) (c : Nat) (m : Str) (k n : Nat) (φ : List D → Sto → Res D) : Prop where
  ex : ∃ (f : Addr) (fd : FuncData) (ps : List Str), Cls T.K (T.ca c) ∧ Meth T.K (T.ca c) m f ∧ Binds T.K fd ps [] ∧ FnOk P w T.K mg base (L2.CX P w) k f fd ps (spD T n φ)
theorem Mc.up {T : Tb} {P : Program} {w : World} {mg : Str → Option Value} {base : Heap} {c : Nat} {m : Str} {j k n : Nat} {φ : List D → Sto → Res D} (h : Mc T P w mg base c m j n φ) (hk : j ≤ k) : Mc T P w mg base c m k n φ := by
  obtain ⟨f, fd, ps, h1, h2, h3, h4⟩ := h.ex
  exact ⟨f, fd, ps, h1, h2, h3, h4.mono hk⟩
def tMethS (C : Addr) (m : Str) (sp : Sp) (E : L2.St → XK) (ta : TE) (t : TA) : TE := fun σ H Q => ta σ H fun x H1 => ∃ a dx fs, x = .ref a ∧ H1 a = some (.ins C dx fs) ∧ fs.lookup m = none ∧ t σ H1 fun vs H2 => sp (x :: vs) H2 Q (E σ)
section
variable {X : Cx} {CX : CXT} {k : Nat} {f C : Addr} {fd : FuncData} {ps : List Str} {sp : Sp} {E : L2.St → XK} {x m : Str} {p pos apos : Pos} {e o : Expr} {es : List Expr} {ta : TE} {t : TA}
theorem pe_methS {pl : Sem Bool} (he : PE X o ta) (c : Cls X.K C) (hm : Meth X.K C m f) (F : FnOk X.prog X.w X.K X.mg X.base CX k f fd ps sp) (hr : Room k X.A) (hb : Binds X.K fd ps []) (hx : ∀ σ, PassesAt CX X σ (E σ)) (ha : PA X (e :: es) t)
    (hst : starEach (e :: es) X.env = (false, eval e X.env) :: starEach es X.env := by rfl) (hpl : (backTo pos (starEach es X.env)).any (·.1) = false := by rfl)
    (ht : eval (.Call (.Attribute o m apos) (e :: es) [] pos) X.env = (do
      let ov ← eval o X.env
      standAt apos.atName
      let (f, first) ← holding [ov] (getMethod ov m pl)
      callWith pos f first (backTo pos (starEach (e :: es) X.env)) (backToKw pos (keywordEach [] X.env))) := by rfl) :
    PE X (.Call (.Attribute o m apos) (e :: es) [] pos) (tMethS C m sp E ta t) := by
  refine ⟨fun pins s σ H Q I h => ?_⟩
  refine PySem.W.methodCall_KW (pl := pl) (thn (he.run pins s σ H _ I h) fun u s1 ⟨x, H1, I1, rx, a, dx, fs, ex, ea, l, q⟩ => ?_) ht
  subst ex
  obtain rfl : u = Value.ref a := rx
  refine getmeth_ok I1 ea c hm l ?_
  refine PySem.W.callWith_K (first := [.ref a]) (h₀ := X.base) I.ok.mod.kin hm.kp (thn (ha.run pos pins s1 σ H1 _ I1 q) fun us s2 ⟨vs, H2, I2, r, q2⟩ => ⟨I2.kIn, ?_⟩) hst hpl
  exact run_fnS (us := .ref a :: us) (vs := .ref a :: vs) F hr hb (hx σ) I2 (.cons rfl r) q2
theorem pe_methS0 {pl : Sem Bool} (he : PE X o ta) (c : Cls X.K C) (hm : Meth X.K C m f) (F : FnOk X.prog X.w X.K X.mg X.base CX k f fd ps sp) (hr : Room k X.A) (hb : Binds X.K fd ps []) (hx : ∀ σ, PassesAt CX X σ (E σ))
    (ht : eval (.Call (.Attribute o m apos) [] [] pos) X.env = (do
      let ov ← eval o X.env
      standAt apos.atName
      let (f, first) ← holding [ov] (getMethod ov m pl)
      callWith pos f first (backTo pos (starEach [] X.env)) (backToKw pos (keywordEach [] X.env))) := by rfl) :
    PE X (.Call (.Attribute o m apos) [] [] pos) (tMethS C m sp E ta tNil) := by
  refine ⟨fun pins s σ H Q I h => ?_⟩
  refine PySem.W.methodCall_KW (pl := pl) (thn (he.run pins s σ H _ I h) fun u s1 ⟨x, H1, I1, rx, a, dx, fs, ex, ea, l, q⟩ => ?_) ht
  subst ex
  obtain rfl : u = Value.ref a := rx
  refine getmeth_ok I1 ea c hm l ?_
  exact PySem.W.callWith_K0 (first := [.ref a]) I1.kIn hm.kp (run_fnS (us := [.ref a]) (vs := [.ref a]) F hr hb (hx σ) I1 (.cons rfl .nil) q)
/-- C(..): a new instance, then its __init__ -/
def tMakeS (C : Addr) (sp : Sp) (E : L2.St → XK) (t : TA) : TE := fun σ H Q => t σ H fun vs H1 => ∀ x dx, H1 x = none → H1 dx = none → dx ≠ x →
  sp (.ref x :: vs) (upd (upd H1 dx (.own x)) x (.ins C dx [])) (fun v H2 => v = .non ∧ Q (.ref x) H2) (E σ)
theorem run_makeS {pins : List (Addr × Obj)} {σ : L2.St} {H : Hp} {s : Shared} {Q : VK} {us : List Value} {vs : List V} (M : Mk X.K C f) (F : FnOk X.prog X.w X.K X.mg X.base CX k f fd ps sp) (hr : Room (k + 1) X.A) (hb : Binds X.K fd ps [])
    (hx : PassesAt CX X σ (E σ)) (I : Inv X pins σ H s) (r : Vals vs us)
    (h : ∀ x dx, H x = none → H dx = none → dx ≠ x → sp (.ref x :: vs) (upd (upd H dx (.own x)) x (.ins C dx [])) (fun v H2 => v = .non ∧ Q (.ref x) H2) (E σ)) :
    wpAny (model X.prog X.w) X.A (call (.ref C) us) (EP X pins σ Q) X.xe s := by
  have hq := h (s.heap.objs.size + 1) s.heap.objs.size (I.hok.fresh (Nat.le_succ _)) (I.hok.fresh (Nat.le_refl _)) (Nat.ne_of_lt (Nat.lt_succ_self _))
  have I2 := Inv.made (C := C) I
  have r2 : Vals (V.ref (s.heap.objs.size + 1) :: vs) (Value.ref (s.heap.objs.size + 1) :: us) := .cons rfl r
  have hl : (Value.ref (s.heap.objs.size + 1) :: us).length = ps.length := by
    have e := r2.length
    rw [F.len _ _ _ _ hq] at e
    exact e.symm
  have b := hb _ (Value.ref (s.heap.objs.size + 1) :: us) I2.kIn (by rw [List.append_nil]; exact hl)
  rw [List.append_nil] at b
  refine wpAny_call (make_map (f := f) I.kIn M.makes M.init (beq_iff_eq.mp M.fn) (codeAny_mono (F.run _ X.stack _ _ ⟨Value.ref (s.heap.objs.size + 1) :: us, []⟩ (Value.ref (s.heap.objs.size + 1) :: us) _ _ (E σ) (hr.make C us [])
    (I2.env0.make C us []) b r2 hq) fun r s' hq' => ?_))
  cases r with
  | error e => exact hx pins _ _ e s' I2 hq'
  | ok fl =>
    cases fl with
    | ret u =>
      obtain ⟨v, H', I3, rv, ev, q3⟩ := I2.after hq'
      subst ev
      exact ⟨rv, ⟨V.ref (s.heap.objs.size + 1), H', I3, rfl, q3⟩⟩
    | next => exact False.elim hq'
    | brk => exact False.elim hq'
    | cont => exact False.elim hq'
theorem pe_makeS (M : Mk X.K C f) (F : FnOk X.prog X.w X.K X.mg X.base CX k f fd ps sp) (hr : Room (k + 1) X.A) (hg : Gl X x) (hm : X.mg x = some (.ref C)) (hb : Binds X.K fd ps []) (hx : ∀ σ, PassesAt CX X σ (E σ))
    (ha : PA X (e :: es) t) (hdb : (x == ("__debug__" : Str)) = false := by decide) (he : starEach (e :: es) X.env = (false, eval e X.env) :: starEach es X.env := by rfl) (hpl : (backTo pos (starEach es X.env)).any (·.1) = false := by rfl) :
    PE X (.Call (.Name x p) (e :: es) [] pos) (tMakeS C sp E t) := by
  refine ⟨fun pins s σ H Q I h => ?_⟩
  refine wpAny_Call_Name_kw (ld_glob I hg hm ?_ hdb)
  refine PySem.W.callWith_K (h₀ := X.base) I.ok.mod.kin M.kp (thn (ha.run pos pins s σ H _ I h) fun us s1 ⟨vs, H1, I1, r, q⟩ => ⟨I1.kIn, ?_⟩) he hpl
  exact run_makeS M F hr hb (hx σ) I1 r q
theorem pe_makeS0 (M : Mk X.K C f) (F : FnOk X.prog X.w X.K X.mg X.base CX k f fd ps sp) (hr : Room (k + 1) X.A) (hg : Gl X x) (hm : X.mg x = some (.ref C)) (hb : Binds X.K fd ps []) (hx : ∀ σ, PassesAt CX X σ (E σ))
    (hdb : (x == ("__debug__" : Str)) = false := by decide) : PE X (.Call (.Name x p) [] [] pos) (tMakeS C sp E tNil) := by
  refine ⟨fun pins s σ H Q I h => ?_⟩
  refine wpAny_Call_Name_kw (ld_glob I hg hm ?_ hdb)
  exact PySem.W.callWith_K0 I.kIn M.kp (run_makeS (us := []) M F hr hb (hx σ) I .nil h)
end
/-- so much of the table: the receiver's class picks the def -/
def dMeth (nF : Nat) (tbl : List (Nat × (List D → Sto → Res D))) (f : DE) (fa : DA) : DE := fun δ s => (f δ s).bind fun x s1 => match obOf s1 x with
  | some (c, ns, _) => if okN nF ns = true then match tbl.lookup c with
    | some φ => (fa δ s1).bind fun ds s2 => φ (x :: ds) s2
    | none => .stuck
    else .stuck
  | none => .stuck
theorem PE.orE {X : Cx} {e : Expr} {t t' : TE} (h : PE X e t) (h' : PE X e t') : PE X e (fun σ H Q => t σ H Q ∨ t' σ H Q) := ⟨fun pins s σ H Q I q => by
  rcases q with q | q
  · exact h.run pins s σ H Q I q
  · exact h'.run pins s σ H Q I q⟩
section
variable {T : Tb} {X : Cx} {nF j k : Nat} {m : Str}
theorem den_meth1 {W : WX} {n c : Nat} {φ : List D → Sto → Res D} {tbl : List (Nat × (List D → Sto → Res D))} {t1 : TE} {t2 : TA} {f : DE} {fa : DA} (d1 : DenG T (Rp T) W t1 f) (d2 : DenG T (RpsN T n) W t2 fa) (hmf : ∀ i, i < nF → T.fm i ≠ m) (hl : tbl.lookup c = some φ)
    {σ : L2.St} {H P : Hp} {ι : List Addr} {F : Hp} {δ : Env} {s : Sto} {Q : VK} (R : RelH T P ι F s H) (E : REnv T F ι δ σ) (post : Post T P (Rp T) Q (fun c H' => W (.ref (T.ca c)) none σ H') F ι (dMeth nF tbl f fa δ s))
    (hsel : ∀ x s1, f δ s = .ok x s1 → ∃ ns vs, obOf s1 x = some (c, ns, vs)) : tMethS (T.ca c) m (spD T (n + 1) φ) (WE W) t1 t2 σ H Q := by
  show t1 σ H _
  unfold dMeth at post
  refine d1 σ H P ι F δ s _ R E ?_
  cases e : f δ s with
  | exc k s1 => rw [e] at post; exact post
  | stuck => rw [e] at post; exact post
  | ok x s1 =>
    rw [e] at post
    obtain ⟨ns, vs, ho⟩ := hsel x s1 e
    intro y H1 ι1 F1 g1 R1 r1
    have post1 := Post.mono g1 (show Post T P (Rp T) Q (fun c H' => W (.ref (T.ca c)) none σ H') F ι (match obOf s1 x with
      | some (c, ns, _) => if okN nF ns = true then match tbl.lookup c with
        | some φ => (fa δ s1).bind fun ds s2 => φ (x :: ds) s2
        | none => .stuck
        else .stuck
      | none => .stuck) from post)
    rw [ho] at post1
    dsimp only at post1
    split at post1
    · rename_i hn
      rw [hl] at post1
      dsimp only at post1
      obtain ⟨a, dx, fs, rfl, h2, h3, h4⟩ := ob_of R1 r1 ho
      refine ⟨a, dx, fs, rfl, h2, lk_none (fun i hi => hmf i (okN_ok hn i hi)) h3, ?_⟩
      refine den_then d2 R1 (E.mono g1) post1 fun ds us H2 ι2 F2 s2 g2 R2 E2 r2 post2 => ?_
      exact ⟨by rw [List.length_cons, r2.2], P, ι2, F2, s2, x :: ds, R2, .cons (r1.mono g2) r2.1, post2⟩
    · exact post1.elim
/-- the receivers' classes, one after another -/
theorem meth_list {e : Expr} {n : Nat} {f : DE} {fa : DA} {tbl : List (Nat × (List D → Sto → Res D))} {pn : List (Addr × Obj)} {xe : Value → Shared → Prop} {W : WX} {t1 : TE} {t2 : TA} (d1 : DenG T (Rp T) W t1 f) (d2 : DenG T (RpsN T n) W t2 fa) (hmf : ∀ i, i < nF → T.fm i ≠ m)
    (h0 : PE (X.tr pn xe) e (fun σ H _ => t1 σ H fun _ _ => False)) : ∀ (l : List (Nat × (List D → Sto → Res D))), (∀ p ∈ l, tbl.lookup p.1 = some p.2 ∧ PE (X.tr pn xe) e (tMethS (T.ca p.1) m (spD T (n + 1) p.2) (WE W) t1 t2)) →
      ∃ t, PE (X.tr pn xe) e t ∧ ∀ σ H P ι F δ s Q, RelH T P ι F s H → REnv T F ι δ σ → Post T P (Rp T) Q (fun c H' => W (.ref (T.ca c)) none σ H') F ι (dMeth nF tbl f fa δ s) →
        (∀ x s1, f δ s = .ok x s1 → ∃ p ∈ l, ∃ ns vs, obOf s1 x = some (p.1, ns, vs)) → t σ H Q
  | [], _ => by
    refine ⟨_, h0, fun σ H P ι F δ s Q R E post hsel => ?_⟩
    refine d1 σ H P ι F δ s _ R E ?_
    unfold dMeth at post
    cases e : f δ s with
    | exc k s1 => rw [e] at post; exact post
    | stuck => rw [e] at post; exact post
    | ok x s1 =>
      obtain ⟨p, hp, _⟩ := hsel x s1 e
      cases hp
  | p :: l, h => by
    obtain ⟨t, ht, hd⟩ := meth_list d1 d2 hmf h0 l fun q hq => h q (List.mem_cons_of_mem _ hq)
    obtain ⟨hp1, hp2⟩ := h p List.mem_cons_self
    refine ⟨_, PE.orE hp2 ht, fun σ H P ι F δ s Q R E post hsel => ?_⟩
    by_cases hq : ∀ x s1, f δ s = .ok x s1 → ∃ ns vs, obOf s1 x = some (p.1, ns, vs)
    · exact .inl (den_meth1 d1 d2 hmf hp1 R E post hq)
    · refine .inr (hd σ H P ι F δ s Q R E post fun x s1 e => ?_)
      obtain ⟨q, hq1, hq2⟩ := hsel x s1 e
      rcases List.mem_cons.mp hq1 with rfl | hq1
      · refine absurd (fun x' s1' e' => ?_) hq
        rw [e] at e'
        cases e'
        exact hq2
      · exact ⟨q, hq1, hq2⟩
theorem lookup_mem' {α : Type} {c : Nat} {φ : α} : ∀ {l : List (Nat × α)}, l.lookup c = some φ → (c, φ) ∈ l
  | [], h => by cases h
  | (d, ψ) :: l, h => by
    rw [List.lookup_cons] at h
    cases q : (c == d) with
    | true =>
      rw [q] at h
      cases h
      rw [beq_iff_eq.mp q]
      exact List.mem_cons_self
    | false =>
      rw [q] at h
      exact List.mem_cons_of_mem _ (lookup_mem' h)
theorem sel_of {P : Hp} {W : WX} {σ : L2.St} {f : DE} {fa : DA} {tbl : List (Nat × (List D → Sto → Res D))} {δ : Env} {s : Sto} {Q : VK} {F : Hp} {ι : List Addr} (post : Post T P (Rp T) Q (fun c H' => W (.ref (T.ca c)) none σ H') F ι (dMeth nF tbl f fa δ s)) :
    ∀ x s1, f δ s = .ok x s1 → ∃ p ∈ tbl, ∃ ns vs, obOf s1 x = some (p.1, ns, vs) := fun x s1 e => by
  unfold dMeth at post
  rw [e] at post
  have post1 : Post T P (Rp T) Q (fun c H' => W (.ref (T.ca c)) none σ H') F ι (match obOf s1 x with
      | some (c, ns, _) => if okN nF ns = true then match tbl.lookup c with
        | some φ => (fa δ s1).bind fun ds s2 => φ (x :: ds) s2
        | none => .stuck
        else .stuck
      | none => .stuck) := post
  cases q : obOf s1 x with
  | none => rw [q] at post1; exact post1.elim
  | some z =>
    obtain ⟨c, ns, vs⟩ := z
    rw [q] at post1
    dsimp only at post1
    split at post1
    · cases q2 : tbl.lookup c with
      | none => rw [q2] at post1; exact post1.elim
      | some φ => exact ⟨(c, φ), lookup_mem' q2, ns, vs, rfl⟩
    · exact post1.elim
/-- each row of the table is the first of its class, and there is a def for it -/
def AllM (T : Tb) (X : Cx) (m : Str) (j n : Nat) (tbl : List (Nat × (List D → Sto → Res D))) : List (Nat × (List D → Sto → Res D)) → Prop
  | [] => True
  | p :: l => (Mc T X.prog X.w X.mg X.base p.1 m j n p.2 ∧ tbl.lookup p.1 = some p.2) ∧ AllM T X m j n tbl l
theorem AllM.mem {n : Nat} {tbl : List (Nat × (List D → Sto → Res D))} : ∀ {l : List (Nat × (List D → Sto → Res D))}, AllM T X m j n tbl l → ∀ p ∈ l, Mc T X.prog X.w X.mg X.base p.1 m j n p.2 ∧ tbl.lookup p.1 = some p.2
  | [], _, p, hp => by cases hp
  | q :: l, h, p, hp => by
    rcases List.mem_cons.mp hp with rfl | hp
    · exact h.1
    · exact AllM.mem h.2 p hp
theorem d_meth {o e : Expr} {es : List Expr} {apos pos : Pos} {f : DE} {fa : DA} {pl : Sem Bool} {tbl : List (Nat × (List D → Sto → Res D))} (hall : AllM T X m j ((e :: es).length + 1) tbl tbl) (hmf : ∀ i, i < nF → T.fm i ≠ m) (ho : PDe T X o f) (ha : PDa T X (e :: es) fa) (hr : Room j X.A) (hK : X.K = T.K := by rfl)
    (hst : starEach (e :: es) X.env = (false, eval e X.env) :: starEach es X.env := by rfl) (hpl : (backTo pos (starEach es X.env)).any (·.1) = false := by rfl)
    (ht : eval (.Call (.Attribute o m apos) (e :: es) [] pos) X.env = (do
      let ov ← eval o X.env
      standAt apos.atName
      let (f, first) ← holding [ov] (getMethod ov m pl)
      callWith pos f first (backTo pos (starEach (e :: es) X.env)) (backToKw pos (keywordEach [] X.env))) := by rfl) : PDe T X (.Call (.Attribute o m apos) (e :: es) [] pos) (dMeth nF tbl f fa) := fun pn xe W tk => by
  obtain ⟨t1, p1, d1⟩ := ho pn xe W tk
  obtain ⟨t2, p2, d2⟩ := ha pn xe W tk
  have h0 : PE (X.tr pn xe) (.Call (.Attribute o m apos) (e :: es) [] pos) (fun σ H _ => t1 σ H fun _ _ => False) :=
    ⟨fun pins s σ H Q I h => PySem.W.methodCall_KW (pl := pl) (thn (p1.run pins s σ H _ I h) fun u s1 ⟨x, H1, I1, rx, q⟩ => q.elim) ht⟩
  obtain ⟨t, hp, hd⟩ := meth_list (nF := nF) (X := X) (tbl := tbl) d1 d2 hmf h0 tbl fun q hq => by
    obtain ⟨hm, hl⟩ := hall.mem q hq
    obtain ⟨g, fd, ps, h1, h2, h3, h4⟩ := hm.ex
    rw [← hK] at h1 h2 h3 h4
    exact ⟨hl, pe_methS (X := X.tr pn xe) (pl := pl) p1 h1 h2 h4 hr h3 (fun σ => passAt tk σ) p2 hst hpl ht⟩
  exact ⟨t, hp, fun σ H P ι F δ s Q R E post => hd σ H P ι F δ s Q R E post (sel_of post)⟩
theorem d_meth0 {o : Expr} {apos pos : Pos} {f : DE} {pl : Sem Bool} {tbl : List (Nat × (List D → Sto → Res D))} (hall : AllM T X m j 1 tbl tbl) (hmf : ∀ i, i < nF → T.fm i ≠ m) (ho : PDe T X o f) (hr : Room j X.A) (hK : X.K = T.K := by rfl)
    (ht : eval (.Call (.Attribute o m apos) [] [] pos) X.env = (do
      let ov ← eval o X.env
      standAt apos.atName
      let (f, first) ← holding [ov] (getMethod ov m pl)
      callWith pos f first (backTo pos (starEach [] X.env)) (backToKw pos (keywordEach [] X.env))) := by rfl) : PDe T X (.Call (.Attribute o m apos) [] [] pos) (dMeth nF tbl f aNil) := fun pn xe W tk => by
  obtain ⟨t1, p1, d1⟩ := ho pn xe W tk
  have d2 : DenG T (RpsN T 0) W tNil aNil := fun _ _ _ _ _ _ _ _ R _ post => post.here R ⟨.nil, rfl⟩
  have h0 : PE (X.tr pn xe) (.Call (.Attribute o m apos) [] [] pos) (fun σ H _ => t1 σ H fun _ _ => False) :=
    ⟨fun pins s σ H Q I h => PySem.W.methodCall_KW (pl := pl) (thn (p1.run pins s σ H _ I h) fun u s1 ⟨x, H1, I1, rx, q⟩ => q.elim) ht⟩
  obtain ⟨t, hp, hd⟩ := meth_list (nF := nF) (X := X) (tbl := tbl) d1 d2 hmf h0 tbl fun q hq => by
    obtain ⟨hm, hl⟩ := hall.mem q hq
    obtain ⟨g, fd, ps, h1, h2, h3, h4⟩ := hm.ex
    rw [← hK] at h1 h2 h3 h4
    exact ⟨hl, pe_methS0 (X := X.tr pn xe) (pl := pl) p1 h1 h2 h4 hr h3 (fun σ => passAt tk σ) ht⟩
  exact ⟨t, hp, fun σ H P ι F δ s Q R E post => hd σ H P ι F δ s Q R E post (sel_of post)⟩
end
/-! ## C(..) -/
structure Mkc (T : Tb) (P : Program) (w : World) (mg : Str → Option Value) (base : Heap) (c : Nat) (x : Str) (k n : Nat) (φ : List D → Sto → Res D) : Prop where
  ex : ∃ (f : Addr) (fd : FuncData) (ps : List Str), Mk T.K (T.ca c) f ∧ mg x = some (.ref (T.ca c)) ∧ Binds T.K fd ps [] ∧ FnOk P w T.K mg base (L2.CX P w) k f fd ps (spD T n φ)
/-- the new object is a cell -/
def mkO (c : Nat) (φ : List D → Sto → Res D) (ds : List D) (s : Sto) : Res D := match φ (.loc s.length :: ds) (s ++ [.obj c [] []]) with
  | .ok .non s2 => .ok (.loc s.length) s2
  | .exc k s2 => .exc k s2
  | _ => .stuck
/-- .. and stays as it is behind its __init__ -/
def frzO (n : Nat) : Res D → Res D
  | .ok (.loc m) s2 => match s2[n]? with
    | some (.obj c ns vs) => if (decide (m = n) && (decide (s2.length = n + 1) && (belows n vs && (s2.take n).all (Cell.below n)))) = true then .ok (.obj c ns vs) (s2.take n) else .stuck
    | _ => .stuck
  | .exc k s2 => cutX n k s2
  | _ => .stuck
def mkOF (c : Nat) (φ : List D → Sto → Res D) (ds : List D) (s : Sto) : Res D := frzO s.length (mkO c φ ds s)
section
variable {T : Tb} {X : Cx} {j k : Nat}
theorem post_mkO {n c : Nat} {φ : List D → Sto → Res D} {ds : List D} {vs : List V} {H P : Hp} {ι : List Addr} {F : Hp} {s : Sto} {Q : VK} {E : Nat → Hp → Prop} (R : RelH T P ι F s H) (r : Rps T F ι ds vs) (hn : vs.length = n) (post : Post T P (Rp T) Q E F ι (mkO c φ ds s))
    {E' : XK} (hE : ∀ c H', E c H' → E' (.ref (T.ca c)) none H') : ∀ x dx, H x = none → H dx = none → dx ≠ x → spD T (n + 1) φ (.ref x :: vs) (upd (upd H dx (.own x)) x (.ins (T.ca c) dx [])) (fun v H2 => v = .non ∧ Q (.ref x) H2) E' := fun x dx hx hdx ne => by
  have R1 := R.new hdx (.own x)
  have g1 : Grow F ι (upd F dx (.own x)) ι := grow_new (R.freeF hdx) _
  have hx1 : upd H dx (.own x) x = none := by rw [upd_ne (Ne.symm ne)]; exact hx
  have R2 := R1.alloc (c := .obj c [] []) (o := .ins (T.ca c) dx []) hx1 ⟨R1.freeF hx1, dx, [], upd_same, rfl, .nil⟩
  have g2 := g1.trans (grow_app (upd F dx (.own x)) ι x)
  refine ⟨by rw [List.length_cons, hn], P, _, _, _, .loc s.length :: ds, R2, .cons ?_ (r.mono g2), ?_⟩
  · unfold Rp
    exact ⟨x, by rw [← R.len]; simp, rfl⟩
  · unfold mkO at post
    cases e : φ (.loc s.length :: ds) (s ++ [.obj c [] []]) with
    | stuck => rw [e] at post; exact post.elim
    | exc k s2 =>
      rw [e] at post
      exact fun H' ι' F' g' R' => hE _ _ (post H' ι' F' (g2.trans g') R')
    | ok d s2 =>
      rw [e] at post
      cases d with
      | non =>
        intro v H' ι' F' g' R' rv
        unfold Rp at rv
        refine ⟨rv, post (.ref x) H' ι' F' (g2.trans g') R' ?_⟩
        unfold Rp
        exact ⟨x, g'.at (by rw [← R.len]; simp), rfl⟩
      | _ => exact post.elim
theorem post_frz {P : Hp} {ι : List Addr} {F : Hp} {s : Sto} {H : Hp} {Q : VK} {E : Nat → Hp → Prop} {r : Res D} (R : RelH T P ι F s H) (post : Post T P (Rp T) Q E F ι (frzO s.length r)) : Post T P (Rp T) Q E F ι r := by
  cases r with
  | stuck => exact post
  | exc k s2 =>
    have post' : Post T P (Rp T) Q E F ι (cutX s.length k s2) := post
    unfold cutX at post'
    split at post'
    · exact post'
    · split at post'
      · rename_i hb
        simp only [Bool.and_eq_true, decide_eq_true_eq] at hb
        exact fun H' ι' F' g R' => post' H' _ F' (takeG g R.len) (R'.cut hb.2)
      · exact post'.elim
  | ok d s2 =>
    cases d with
    | loc m =>
      unfold frzO at post
      dsimp only at post
      split at post
      · rename_i c ns vs hs
        split at post
        · rename_i hb
          simp only [Bool.and_eq_true, decide_eq_true_eq] at hb
          obtain ⟨rfl, hb1, hb2, hb3⟩ := hb
          intro v H' ι' F' g R' rv
          unfold Rp at rv
          obtain ⟨a, e1, rfl⟩ := rv
          obtain ⟨h1, dx, fs, h2, h3, h4⟩ := R'.cell _ _ _ hs e1
          have R2 := R'.freeze hs rfl e1 h1 h2
          have g2 : Grow F' ι' (upd F' a (.ins (T.ca c) dx fs)) ι' := grow_new h1 _
          have e3 : (s2.set s.length .dead).take s.length = s2.take s.length := by
            rw [List.take_set, List.set_eq_of_length_le (by rw [List.length_take]; omega)]
          have R3 := R2.cut (n := s.length) (by rw [e3]; exact hb3)
          rw [e3] at R3
          refine post (.ref a) H' _ _ (takeG (g.trans g2) R.len) R3 ?_
          unfold Rp
          exact ⟨a, dx, fs, rfl, upd_same, h3, (h4.mono g2).takeI hb2⟩
        · exact post.elim
      · exact post.elim
    | _ => exact post.elim
def dMake (φ : List D → Sto → Res D) (fa : DA) : DE := dCall φ fa
theorem d_make {x : Str} {p pos : Pos} {e : Expr} {es : List Expr} {c n : Nat} {φ : List D → Sto → Res D} {fa : DA} (m : Mkc T X.prog X.w X.mg X.base c x k n φ) (ha : PDa T X (e :: es) fa) (hr : Room j X.A) (hk : k + 1 ≤ j := by decide) (hn : (e :: es).length + 1 = n := by rfl) (hg : Gl X x := by rfl) (hK : X.K = T.K := by rfl)
    (hdb : (x == ("__debug__" : Str)) = false := by decide) (he : starEach (e :: es) X.env = (false, eval e X.env) :: starEach es X.env := by rfl) (hpl : (backTo pos (starEach es X.env)).any (·.1) = false := by rfl) :
    PDe T X (.Call (.Name x p) (e :: es) [] pos) (dCall (mkO c φ) fa) := fun pn xe W tk => by
  obtain ⟨t1, p1, d1⟩ := ha pn xe W tk
  obtain ⟨f, fd, ps, h1, h2, h3, h4⟩ := m.ex
  rw [← hK] at h1 h3 h4
  refine ⟨_, pe_makeS (X := X.tr pn xe) h1 h4 (hr.mono hk) hg h2 h3 (fun σ => passAt tk σ) p1 hdb he hpl, fun σ H P ι F δ s Q R E post => ?_⟩
  show t1 σ H _
  refine den_then d1 R E post fun ds vs H1 ι1 F1 s1 g R1 E1 r1 post1 => ?_
  subst hn
  exact post_mkO R1 r1.1 r1.2 post1 fun _ _ h => h
theorem d_makeF {x : Str} {p pos : Pos} {e : Expr} {es : List Expr} {c n : Nat} {φ : List D → Sto → Res D} {fa : DA} (m : Mkc T X.prog X.w X.mg X.base c x k n φ) (ha : PDa T X (e :: es) fa) (hr : Room j X.A) (hk : k + 1 ≤ j := by decide) (hn : (e :: es).length + 1 = n := by rfl) (hg : Gl X x := by rfl) (hK : X.K = T.K := by rfl)
    (hdb : (x == ("__debug__" : Str)) = false := by decide) (he : starEach (e :: es) X.env = (false, eval e X.env) :: starEach es X.env := by rfl) (hpl : (backTo pos (starEach es X.env)).any (·.1) = false := by rfl) :
    PDe T X (.Call (.Name x p) (e :: es) [] pos) (dCall (mkOF c φ) fa) := fun pn xe W tk => by
  obtain ⟨t1, p1, d1⟩ := ha pn xe W tk
  obtain ⟨f, fd, ps, h1, h2, h3, h4⟩ := m.ex
  rw [← hK] at h1 h3 h4
  refine ⟨_, pe_makeS (X := X.tr pn xe) h1 h4 (hr.mono hk) hg h2 h3 (fun σ => passAt tk σ) p1 hdb he hpl, fun σ H P ι F δ s Q R E post => ?_⟩
  show t1 σ H _
  refine den_then d1 R E post fun ds vs H1 ι1 F1 s1 g R1 E1 r1 post1 => ?_
  subst hn
  exact post_mkO R1 r1.1 r1.2 (post_frz R1 post1) fun _ _ h => h
theorem d_make0 {x : Str} {p pos : Pos} {c : Nat} {φ : List D → Sto → Res D} (m : Mkc T X.prog X.w X.mg X.base c x k 1 φ) (hr : Room j X.A) (hk : k + 1 ≤ j := by decide) (hg : Gl X x := by rfl) (hK : X.K = T.K := by rfl) (hdb : (x == ("__debug__" : Str)) = false := by decide) :
    PDe T X (.Call (.Name x p) [] [] pos) (dCall (mkO c φ) aNil) := fun pn xe W tk => by
  obtain ⟨f, fd, ps, h1, h2, h3, h4⟩ := m.ex
  rw [← hK] at h1 h3 h4
  refine ⟨_, pe_makeS0 (X := X.tr pn xe) h1 h4 (hr.mono hk) hg h2 h3 (fun σ => passAt tk σ) hdb, fun σ H P ι F δ s Q R E post => ?_⟩
  have post1 : Post T P (Rp T) Q (fun c H' => W (.ref (T.ca c)) none σ H') F ι (mkO c φ [] s) := post
  exact post_mkO (n := 0) R .nil rfl post1 fun _ _ h => h
end
/-! ### a class without an __init__ of its own -/
structure Mk0 (K : PySem.W.Frag) (C : Addr) : Prop where
  makes : PySem.W.makesIn K C = true
  init : PySem.W.findIn K (.ref C) "__init__" = some (some (.builtin "object.__init__"))
  top : PySem.W.mroIn K C (.type "object") = some true
  kp : PySem.W.keepIn K (.ref C) = true
theorem pe_mk0 {X : Cx} {C : Addr} {x : Str} {p pos : Pos} (M : Mk0 X.K C) (hg : Gl X x) (hm : X.mg x = some (.ref C)) (hdb : (x == ("__debug__" : Str)) = false := by decide) :
    PE X (.Call (.Name x p) [] [] pos) (fun _ H Q => ∀ x dx, H x = none → H dx = none → dx ≠ x → Q (.ref x) (upd (upd H dx (.own x)) x (.ins C dx []))) := by
  refine ⟨fun pins s σ H Q I h => ?_⟩
  refine wpAny_Call_Name_kw (ld_glob I hg hm ?_ hdb)
  refine PySem.W.callWith_K0 I.kIn M.kp ?_
  have hq := h (s.heap.objs.size + 1) s.heap.objs.size (I.hok.fresh (Nat.le_succ _)) (I.hok.fresh (Nat.le_refl _)) (Nat.ne_of_lt (Nat.lt_succ_self _))
  have I2 := Inv.made (C := C) I
  refine wpAny_call (make_map0 I.kIn M.makes M.init (fun self => PySem.W.Looks.of_pure (PySem.W.oi_bind _)) ?_)
  have ho : ((s.heap.push PySem.W.emptyDict).push (PySem.W.instObj C s.heap.objs.size)).get? (s.heap.objs.size + 1) = some (PySem.W.instObj C s.heap.objs.size) := by
    have := Heap.get?_push_size (s.heap.push PySem.W.emptyDict) (o := PySem.W.instObj C s.heap.objs.size) rfl
    rw [Heap.size_push] at this
    exact this
  have t1 : PySem.W.Looks (model X.prog X.w) ((s.heap.push PySem.W.emptyDict).push (PySem.W.instObj C s.heap.objs.size)) (typeOf (.ref (s.heap.objs.size + 1))) (.ref C) := NwA.type_at ho rfl
  have t2 : PySem.W.Looks (model X.prog X.w) ((s.heap.push PySem.W.emptyDict).push (PySem.W.instObj C s.heap.objs.size)) (isInstance (.ref (s.heap.objs.size + 1)) (.type "object")) true := t1.andThen (PySem.W.looks_mroIn I2.kIn M.top)
  refine codeAny_call_builtin PySem.W.oi_plain PySem.W.entry_oi (@PySem.W.check_slot (model X.prog X.w) _ _ _ "object.__init__" "object" "__init__" (.ref (s.heap.objs.size + 1)) [] [] _ PySem.W.oi_kind PySem.W.oi_split t2 (NwA.oi_args_any _ [] []) ?_)
  rw [PySem.W.oi_run]
  exact wpAny_pure ⟨rfl, .ref (s.heap.objs.size + 1), _, I2, rfl, hq⟩
theorem d_mk0 {T : Tb} {X : Cx} {x : Str} {p pos : Pos} (c : Nat) (M : Mk0 T.K (T.ca c)) (hm : X.mg x = some (.ref (T.ca c))) (hg : Gl X x := by rfl) (hK : X.K = T.K := by rfl) (hdb : (x == ("__debug__" : Str)) = false := by decide) :
    PDe T X (.Call (.Name x p) [] [] pos) (dC (.obj c [] [])) := fun pn xe W tk => by
  rw [← hK] at M
  refine ⟨_, pe_mk0 (X := X.tr pn xe) M hg hm hdb, fun σ H P ι F δ s Q R E post x dx hx hdx ne => ?_⟩
  have R1 := R.new hdx (.own x)
  have g1 : Grow F ι (upd F dx (.own x)) ι := grow_new (R.freeF hdx) _
  have hx1 : upd H dx (.own x) x = none := by rw [upd_ne (Ne.symm ne)]; exact hx
  refine (Post.mono g1 post).new R1 hx1 fun g => ?_
  unfold Rp
  exact ⟨x, dx, [], rfl, upd_same, rfl, .nil⟩
end Mp
/-! # MpK -/
namespace Mp
open PySem PySem.Spec PyProof.Rows L2
section
variable {P : Program} {w : World} {A : Around} {E : Value → Shared → Prop} {s : Shared}
theorem call_set_lstI {l : Addr} {items : Array Value} (ns : List Int) {Q : Value → Shared → Prop} (hh : A.handled = none) (hl : s.heap.IsList l items) (hit : IntsAre items.toList ns) (hb : ns.length + 1 < scanBound)
    (h : ∀ (h' : Heap) (tk c : Nat), SetR w h' s.heap.objs.size (fun j => decide (j ∈ ns)) c → c ≤ ns.length → (∀ b o, s.heap.get? b = some o → h'.get? b = some o) → Q (.ref s.heap.objs.size) { s with heap := h', toks := tk }) :
    wpAny (model P w) A (call (.type "set") [.ref l]) Q E s := by
  have hisz : items.size = ns.length := by
    have q := IntsAre.length hit
    rw [Array.length_toList] at q
    exact q
  obtain ⟨c, tl, hmro⟩ := F.called_set.mro
  have hmade := F.called_set.made
  have hsub := F.called_set.sub
  refine wpAny_call (codeAny_of_tree ?_)
  show wpAny _ _ (callAny (.type "set") _) _ _ _
  refine wpAny_pure ⟨Code.quiet_builtin _ (by decide +kernel), codeAny_builtin F.entry_type_call ?_⟩
  rw [Around.under_plain (weight_type_call_type "set" [.ref l] []) rfl]
  have h1 := F.called_set.notType
  have h2 := F.called_set.canCreate
  have hct := F.typeCall_set_1 (.ref l)
  repeat (any_goals (first | assumption | wp_step))

  refine codeAny_mono (code_set_led1 (.ref l) (E := E) (Q₁ := fun obj s₁ => obj = .ref s.heap.objs.size ∧ s₁ = { s with heap := s.heap.push { cls := .type "set", dict := none, data := .set #[] 0 (.fresh 0 0 (!w.params.followText "set-order")) } }) ⟨rfl, rfl⟩) fun r s₁ hr => ?_
  cases r with
  | error e => exact hr
  | ok fl =>
    cases fl with
    | ret obj =>
      obtain ⟨rfl, rfl⟩ := hr
      have hS : (s.heap.push { cls := .type "set", dict := none, data := .set #[] 0 (.fresh 0 0 (!w.params.followText "set-order")) }).get? s.heap.objs.size = some { cls := .type "set", dict := none, data := .set #[] 0 (.fresh 0 0 (!w.params.followText "set-order")) } := Heap.get?_push_size _ rfl
      have hT : Shared.TypeIs { s with heap := s.heap.push { cls := .type "set", dict := none, data := .set #[] 0 (.fresh 0 0 (!w.params.followText "set-order")) } } (.ref s.heap.objs.size) "set" := ⟨_, hS, rfl⟩
      have hli := F.called_set.init.lookup
      have hbi := F.called_set.init.bind (.ref s.heap.objs.size)
      repeat (any_goals (first | assumption | wp_step))

      refine codeAny_mono (codeAny_call_builtin (R := wants (fun r s₂ => r = .none ∧ ∃ h' tk c, s₂ = { s with heap := h', toks := tk } ∧ SetR w h' s.heap.objs.size (fun j => decide (j ∈ ns)) c ∧ c ≤ ns.length ∧
          (∀ b o, s.heap.get? b = some o → h'.get? b = some o)) E) F.called_set.init.plain F.entry_set_init (check_set_init_1 hT ?_)) fun r₂ s₂ hr₂ => ?_
      · obtain ⟨ol, hol, hcl, nl, hdl⟩ := hl
        obtain ⟨ocls, odict, odata, oslots⟩ := ol
        simp only at hcl hdl
        subst hcl; subst hdl
        have hol' : (s.heap.push { cls := .type "set", dict := none, data := .set #[] 0 (.fresh 0 0 (!w.params.followText "set-order")) }).get? l = some { cls := .type "list", dict := odict, data := .seq items nl, slots := oslots } := Heap.get?_push_of_some _ hol
        have hsls := F.sub_list_set
        have hslf := F.sub_list_frozenset
        have hne : (Value.type "list" == Value.type "dict") = false := by decide
        have hl1 : (s.heap.push { cls := .type "set", dict := none, data := .set #[] 0 (.fresh 0 0 (!w.params.followText "set-order")) }).IsList l items := ⟨_, hol', rfl, nl, rfl⟩
        unfold Builtin.«set.__init__» noKeywords Builtin.Frozenset.updateFrom
        generalize hPI : pyIter = PI
        wp_walk
        subst hPI

        refine wpAny_pyIter_list hl1 ?_
        refine wpAny_bind (wpAny_runValue ?_)
        have hlS : l < s.heap.objs.size := Heap.lt_size hol
        have hh3 : A.in1.in1.in1.handled = none := by simp [hh]
        have hz1 : (s.heap.push { cls := .type "set", dict := none, data := .set #[] 0 (.fresh 0 0 (!w.params.followText "set-order")) }).objs.size = s.heap.objs.size + 1 := Heap.size_push ..
        have hneI : l ≠ (s.heap.push { cls := .type "set", dict := none, data := .set #[] 0 (.fresh 0 0 (!w.params.followText "set-order")) }).objs.size := by
          rw [Heap.size_push]; exact Nat.ne_of_lt (Nat.lt_succ_of_lt hlS)
        have hSf : s.heap.objs.size ∉ [(s.heap.push { cls := .type "set", dict := none, data := .set #[] 0 (.fresh 0 0 (!w.params.followText "set-order")) }).objs.size, l] := by
          rw [Heap.size_push]; simp only [List.mem_cons, List.mem_singleton, List.not_mem_nil, or_false, not_or]
          exact ⟨Nat.ne_of_lt (Nat.lt_succ_self _), Nat.ne_of_gt hlS⟩
        have hval : ∀ (i : Nat) (v : Value), items[i]? = some v → ∃ k t, ns[i]? = some k ∧ v = .int k t := fun i v hv => by
          have hi : i < ns.length := by rw [← hisz]; exact (Array.getElem?_eq_some_iff.mp hv).1
          obtain ⟨t, e⟩ := PyProof.Rows.IntsAre.int_at hit i v (by rw [Array.getElem?_toList]; exact hv)
          refine ⟨ns[i], t, List.getElem?_eq_getElem hi, ?_⟩
          rw [e, List.getD_eq_getElem?_getD, List.getElem?_eq_getElem hi] <;> rfl
        refine set_update_ints ((Walks.list hh3 _ l hneI items).toS) s.heap.objs.size
          hSf ns hisz hb hval (items.size - 0) 0 _ (by omega) (Nat.zero_le _)
          ⟨⟨_, Heap.get?_push_size _ rfl, rfl, rfl⟩, (hl1.push _)⟩ ?hS0 ?hR
        case hS0 =>
          have hget : ((s.heap.push { cls := .type "set", dict := none, data := .set #[] 0 (.fresh 0 0 (!w.params.followText "set-order")) }).push { cls := .type "list_iterator", data := .fields #[.ref l, .int 0 0] }).get? s.heap.objs.size
              = some { cls := .type "set", dict := none, data := .set #[] 0 (.fresh 0 0 (!w.params.followText "set-order")) } := Heap.get?_push_of_some _ hS
          exact ⟨0, Nat.le_refl 0, setR_new_at hget⟩
        case hR =>
          intro s' c' hm hc' hS'
          obtain ⟨h', g2, d', tk', os'⟩ := s'
          have eg : g2 = s.gens := hm.gens
          have ed : d' = s.drawn := hm.drawn
          have eo : os' = s.os := hm.os
          subst eg; subst ed; subst eo
          show wpAny _ _ _ _ _ _
          refine wpAny_pure ?_
          show wpAny _ _ (ret Value.none) _ _ _
          rw [hisz] at hc'
          refine wpAny_pure ⟨rfl, h', tk', c', rfl, hS', hc', fun b o e => ?_⟩
          have hb0 : b < s.heap.objs.size := Heap.lt_size e
          have hb1 : b ≠ s.heap.objs.size := Nat.ne_of_lt hb0
          have hb2 : b ≠ (s.heap.push { cls := .type "set", dict := none, data := .set #[] 0 (.fresh 0 0 (!w.params.followText "set-order")) }).objs.size := by
            rw [Heap.size_push]; exact Nat.ne_of_lt (Nat.lt_succ_of_lt hb0)
          exact hm.heap b o (by simp only [List.mem_cons, List.mem_singleton, List.not_mem_nil, or_false, not_or]; exact ⟨hb1, hb2⟩) (Heap.get?_push_of_some _ (Heap.get?_push_of_some _ e))

      · cases r₂ with
        | error e => exact hr₂
        | ok fl₂ =>
          cases fl₂ with
          | ret r =>
            obtain ⟨rfl, h', tk, c', rfl, hS', hc', hk'⟩ := hr₂
            repeat (any_goals (first | assumption | wp_step))
            exact h _ _ _ hS' hc' hk'
          | _ => exact hr₂.elim
    | _ => exact hr.elim

end

/-! ## sorted(set(e)), e a list of whole numbers -/
def insI (x : Int) : List Int → List Int
  | [] => [x]
  | y :: ys => if x < y then x :: y :: ys else if x = y then y :: ys else y :: insI x ys
def sortI : List Int → List Int
  | [] => []
  | x :: xs => insI x (sortI xs)
theorem mem_insI {x y : Int} : ∀ {ys : List Int}, y ∈ insI x ys ↔ y = x ∨ y ∈ ys
  | [] => by simp [insI]
  | z :: zs => by
    unfold insI
    split
    · simp
    · split
      · rename_i h
        subst h
        simp
      · simp only [List.mem_cons, mem_insI (ys := zs)]
        constructor
        · rintro (h | h | h)
          · exact .inr (.inl h)
          · exact .inl h
          · exact .inr (.inr h)
        · rintro (h | h | h)
          · exact .inr (.inl h)
          · exact .inl h
          · exact .inr (.inr h)
theorem mem_sortI {y : Int} : ∀ {xs : List Int}, y ∈ sortI xs ↔ y ∈ xs
  | [] => by simp [sortI]
  | x :: xs => by
    unfold sortI
    rw [mem_insI, mem_sortI (xs := xs)]
    simp
theorem insI_lt {x : Int} : ∀ {ys : List Int}, ys.Pairwise (· < ·) → (insI x ys).Pairwise (· < ·)
  | [], _ => by simp [insI]
  | y :: ys, h => by
    obtain ⟨h1, h2⟩ := List.pairwise_cons.mp h
    unfold insI
    split
    · rename_i hx
      exact List.pairwise_cons.mpr ⟨fun z hz => by
        rcases List.mem_cons.mp hz with rfl | hz
        · exact hx
        · have := h1 z hz
          omega, h⟩
    · split
      · exact h
      · rename_i hx hne
        refine List.pairwise_cons.mpr ⟨fun z hz => ?_, insI_lt h2⟩
        rcases mem_insI.mp hz with rfl | hz
        · omega
        · exact h1 z hz
theorem sortI_lt : ∀ {xs : List Int}, (sortI xs).Pairwise (· < ·)
  | [] => by simp [sortI]
  | x :: xs => by
    unfold sortI
    exact insI_lt sortI_lt
theorem lt_uniq : ∀ {xs ys : List Int}, xs.Pairwise (· < ·) → ys.Pairwise (· < ·) → (∀ z, z ∈ xs ↔ z ∈ ys) → xs = ys
  | [], [], _, _, _ => rfl
  | [], y :: ys, _, _, h => by have := (h y).mpr List.mem_cons_self; cases this
  | x :: xs, [], _, _, h => by have := (h x).mp List.mem_cons_self; cases this
  | x :: xs, y :: ys, hx, hy, h => by
    obtain ⟨h1, h2⟩ := List.pairwise_cons.mp hx
    obtain ⟨h3, h4⟩ := List.pairwise_cons.mp hy
    have e : x = y := by
      rcases List.mem_cons.mp ((h x).mp List.mem_cons_self) with e | e
      · exact e
      · rcases List.mem_cons.mp ((h y).mpr List.mem_cons_self) with e2 | e2
        · exact e2.symm
        · have a := h3 x e
          have b := h1 y e2
          omega
    subst e
    congr 1
    refine lt_uniq h2 h4 fun z => ⟨fun hz => ?_, fun hz => ?_⟩
    · rcases List.mem_cons.mp ((h z).mp (List.mem_cons_of_mem _ hz)) with e | e
      · have := h1 z hz
        omega
      · exact e
    · rcases List.mem_cons.mp ((h z).mpr (List.mem_cons_of_mem _ hz)) with e | e
      · have := h3 z hz
        omega
      · exact e
def intsOf : List D → Option (List Int)
  | [] => some []
  | .int x :: r => (intsOf r).map (x :: ·)
  | _ => none
theorem ints_ok {T : Tb} {F : Hp} {ι : List Addr} : ∀ {ds : List D} {vs : List V} {ns : List Int}, Rps T F ι ds vs → intsOf ds = some ns → vs = ns.map V.int
  | [], vs, ns, r, e => by unfold Rps at r; subst r; cases e; rfl
  | d :: ds, vs, ns, r, e => by
    unfold Rps at r
    obtain ⟨v, us, rfl, h1, h2⟩ := r
    cases d with
    | int x =>
      have e' : (intsOf ds).map (x :: ·) = some ns := e
      cases q : intsOf ds with
      | none => rw [q] at e'; cases e'
      | some cs =>
        rw [q] at e'
        cases e'
        unfold Rp at h1
        rw [h1, ints_ok h2 q]
        rfl
    | _ => cases e
def tSortedSet (K : PySem.W.Frag) (ta : TE) : TE := fun σ H Q => ta σ H fun x H1 => ∃ (l : Addr) (ns : List Int), x = V.ref l ∧ SqL K H1 l (ns.map V.int) ∧ ns.length < 63 ∧ ∀ p, H1 p = none → Q (.ref p) (upd H1 p (.lst ((sortI ns).map V.int)))
theorem pe_sortedSetI {X : Cx} {a : Expr} {ta : TE} {p p2 q pos : Pos} (hc : X.calm = true) (hg : Gl X "sorted") (hm : X.mg "sorted" = none) (hg2 : Gl X "set") (hm2 : X.mg "set" = none) (ha : PE X a ta)
    (na : starEach [a] X.env = (false, eval a X.env) :: starEach [] X.env := by rfl) : PE X (.Call (.Name "sorted" p) [.Call (.Name "set" p2) [a] [] q] [] pos) (tSortedSet X.K ta) := by
  refine ⟨fun pins s σ H Q I h => ?_⟩
  refine Call_ (ld_blt I hg hm PyProof.Rows.boot_sorted ?_)
  refine PyProof.Rows.callWith_builtin1 (PyProof.Rows.args_cons ?_ rfl) rfl rfl
  refine Call_ (ld_blt I hg2 hm2 PyProof.Rows.boot_set ?_)
  refine PyProof.Rows.callWith_type1 (PyProof.Rows.args_cons (thn (ha.run pins s σ H _ I h) fun v s1 ⟨x, H1, I1, r1, q1⟩ => PyProof.Rows.args_nil ?_) na) na rfl
  obtain ⟨l, ns, rfl, hq, h1, q1⟩ := q1
  cases r1
  obtain ⟨its, r, pl, hz⟩ := I1.list hq
  refine call_set_lstI ns (I1.ok.hd hc) pl.isList (by simpa using r.ints) (by unfold scanBound; omega) fun h' tk c hS hcl hk => ?_
  refine PyProof.Rows.args_nil ?_
  have I2 : Inv X pins σ H1 { s1 with heap := h', toks := tk } := I1.kept fun b o e => hk b o e
  refine sorted_set (s := { s1 with heap := h', toks := tk }) hS (I2.ok.hd hc) (by omega) fun s' p out c2 ns2 k g o hp hg hi hs hm hl => ?_
  have e : ns2 = sortI ns := lt_uniq hs sortI_lt fun z => by
    rw [hm z, mem_sortI]
    exact decide_eq_true_iff
  have hlen : (ns2.map V.int).length ≤ sizeLine := by rw [List.length_map, hl, sizeLine_eq]; omega
  have hn : H1 p = none := I2.hok.fresh hp
  have J : Inv X pins σ (upd H1 p (.lst (ns2.map V.int))) { ({ s1 with heap := h', toks := tk } : Shared) with heap := s'.heap, gens := s'.gens, drawn := s'.drawn, toks := s'.toks } :=
    I2.call (ch := []) (Un.laid k hp hn) (I2.hok.laid k hp ⟨hlen, out.toList, c2, vals_of_ints hi, hg⟩) (by rw [g]; exact I2.bare) (fun _ z => nomatch z)
  have e2 : s' = { s1 with heap := s'.heap, gens := s'.gens, drawn := s'.drawn, toks := s'.toks } := by
    cases s'
    cases s1
    cases o
    rfl
  rw [e2]
  refine ⟨.ref p, _, J, rfl, ?_⟩
  rw [e]
  exact q1 p hn
def dSortedSet (f : DE) : DE := fun δ s => (f δ s).bind fun x s1 => match lqOf s1 x with
  | some xs => match intsOf xs with
    | some ns => if ns.length < 63 then .ok (.lst ((sortI ns).map D.int)) s1 else .stuck
    | none => .stuck
  | none => .stuck
section
variable {T : Tb} {X : Cx}
theorem d_sortedSet {a : Expr} {f : DE} {p p2 q pos : Pos} (hm : X.mg "sorted" = none) (hm2 : X.mg "set" = none) (ha : PDe T X a f) (hg : Gl X "sorted" := by rfl) (hg2 : Gl X "set" := by rfl) (hc : X.calm = true := by rfl) (hK : X.K = T.K := by rfl)
    (na : starEach [a] X.env = (false, eval a X.env) :: starEach [] X.env := by rfl) : PDe T X (.Call (.Name "sorted" p) [.Call (.Name "set" p2) [a] [] q] [] pos) (dSortedSet f) := fun pn xe W tk => by
  obtain ⟨t1, p1, d1⟩ := ha pn xe W tk
  have hK' : (X.tr pn xe).K = T.K := hK
  refine ⟨_, pe_sortedSetI (X := X.tr pn xe) hc hg hm hg2 hm2 p1 na, fun σ H P ι F δ s Q R E post => ?_⟩
  rw [hK']
  show t1 σ H _
  refine den_then d1 R E post fun x y H1 ι1 F1 s1 g1 R1 E1 r1 post1 => ?_
  split at post1
  · rename_i xs hx
    split at post1
    · rename_i ns hn
      split at post1
      · rename_i hl
        obtain ⟨l, vs, rfl, h2, h3⟩ := lq_of R1 r1 hx
        rw [ints_ok h3 hn] at h2
        refine ⟨l, ns, rfl, h2, hl, fun p hp => ?_⟩
        refine post1.new R1 hp fun g => ?_
        unfold Rp
        exact ⟨p, _, rfl, upd_same, rps_ints _⟩
      · exact post1.elim
    · exact post1.elim
  · exact post1.elim
end
/-! ## list(x), tuple(x), sum(xs), max(xs), min(xs) -/
def bList : DB
  | [x], s => match (lqOf s x).or (tpOf x) with
    | some xs => .ok (.lst xs) s
    | none => .stuck
  | _, _ => .stuck
/-- .. as a cell -/
def bListC : DB
  | [x], s => match (lqOf s x).or (tpOf x) with
    | some xs => .ok (.loc s.length) (s ++ [.lst xs])
    | none => .stuck
  | _, _ => .stuck
def bTuple : DB
  | [.tup xs], s => .ok (.tup xs) s
  | [x], s => match lqOf s x with
    | some xs => .ok (.tup xs) s
    | none => .stuck
  | _, _ => .stuck
def bSum : DB
  | [x], s => match (lqOf s x).bind intsOf with
    | some ns => .ok (.int ns.sum) s
    | none => .stuck
  | _, _ => .stuck
def maxI : List Int → Int
  | [] => 0
  | n :: ns => ns.foldl max n
def minI : List Int → Int
  | [] => 0
  | n :: ns => ns.foldl min n
def bMaxL : DB
  | [x], s => match (lqOf s x).bind intsOf with
    | some ns => if ns ≠ [] then .ok (.int (maxI ns)) s else .stuck
    | none => .stuck
  | _, _ => .stuck
def bMinL : DB
  | [x], s => match (lqOf s x).bind intsOf with
    | some ns => if ns ≠ [] then .ok (.int (minI ns)) s else .stuck
    | none => .stuck
  | _, _ => .stuck
theorem foldl_max {m : Int} : ∀ {ns : List Int} {n : Int}, (m = n ∨ m ∈ ns) → n ≤ m → (∀ y ∈ ns, y ≤ m) → ns.foldl max n = m
  | [], n, h, _, _ => by
    rcases h with h | h
    · exact h.symm
    · cases h
  | k :: ns, n, h, h1, h2 => by
    rw [List.foldl_cons]
    have hk := h2 k List.mem_cons_self
    refine foldl_max ?_ (by omega) fun y hy => h2 y (List.mem_cons_of_mem _ hy)
    rcases h with h | h
    · left; omega
    · rcases List.mem_cons.mp h with h | h
      · left; omega
      · exact .inr h
theorem foldl_min {m : Int} : ∀ {ns : List Int} {n : Int}, (m = n ∨ m ∈ ns) → m ≤ n → (∀ y ∈ ns, m ≤ y) → ns.foldl min n = m
  | [], n, h, _, _ => by
    rcases h with h | h
    · exact h.symm
    · cases h
  | k :: ns, n, h, h1, h2 => by
    rw [List.foldl_cons]
    have hk := h2 k List.mem_cons_self
    refine foldl_min ?_ (by omega) fun y hy => h2 y (List.mem_cons_of_mem _ hy)
    rcases h with h | h
    · left; omega
    · rcases List.mem_cons.mp h with h | h
      · left; omega
      · exact .inr h
section
variable {T : Tb}
abbrev rListOf (K : PySem.W.Frag) : List V → Hp → VK → Prop := fun xs H Q => ∃ p ys, xs = [.ref p] ∧ (SqL K H p ys ∨ SqT K H p ys) ∧ ∀ l, H l = none → Q (.ref l) (upd H l (.lst ys))
theorem db_list : DenB T (rListOf T.K) bList := by
  intro ds vs H P ι F s Q E R r post
  unfold bList at post
  split at post
  · obtain ⟨v, rfl, h1⟩ := rps1 r
    split at post
    · rename_i xs h
      obtain ⟨a, us, rfl, h2, h3⟩ := lqtp_of R h1 h
      refine ⟨a, us, rfl, h2, fun l hl => ?_⟩
      refine post.new R hl fun g => ?_
      unfold Rp
      exact ⟨l, _, rfl, upd_same, h3.mono g⟩
    · exact post.elim
  · exact post.elim
theorem db_listC : DenB T (rListOf T.K) bListC := by
  intro ds vs H P ι F s Q E R r post
  unfold bListC at post
  split at post
  · obtain ⟨v, rfl, h1⟩ := rps1 r
    split at post
    · rename_i xs h
      obtain ⟨a, us, rfl, h2, h3⟩ := lqtp_of R h1 h
      refine ⟨a, us, rfl, h2, fun l hl => post_loc post R hl ?_⟩
      exact ⟨R.freeF hl, _, upd_same, h3.mono (grow_app _ _ _)⟩
    · exact post.elim
  · exact post.elim
abbrev rTupleOf (K : PySem.W.Frag) : List V → Hp → VK → Prop := fun xs H Q => ∃ p ys, xs = [.ref p] ∧ ((SqL K H p ys ∧ ∀ l, H l = none → Q (.ref l) (upd H l (.tup ys))) ∨ (SqT K H p ys ∧ Q (.ref p) H))
theorem db_tuple : DenB T (rTupleOf T.K) bTuple := by
  intro ds vs H P ι F s Q E R r post
  unfold bTuple at post
  split at post
  · obtain ⟨v, rfl, h1⟩ := rps1 r
    obtain ⟨a, us, rfl, h2, _, h3⟩ := tp_of R h1
    exact ⟨a, us, rfl, .inr ⟨SqT.of h2, post.here R h1⟩⟩
  · obtain ⟨v, rfl, h1⟩ := rps1 r
    split at post
    · rename_i xs h
      obtain ⟨a, us, rfl, h2, h3⟩ := lq_of R h1 h
      refine ⟨a, us, rfl, .inl ⟨h2, fun l hl => ?_⟩⟩
      refine post.new R hl fun g => ?_
      unfold Rp
      exact ⟨l, _, rfl, upd_same, h3.mono g⟩
    · exact post.elim
  · exact post.elim
theorem ints_at {P : Hp} {ι : List Addr} {F : Hp} {s : Sto} {H : Hp} {x : D} {v : V} {ns : List Int} (R : RelH T P ι F s H) (r : Rp T F ι x v) (h : (lqOf s x).bind intsOf = some ns) : ∃ a, v = .ref a ∧ SqL T.K H a (ns.map V.int) := by
  cases q : lqOf s x with
  | none => rw [q] at h; cases h
  | some xs =>
    rw [q] at h
    obtain ⟨a, us, rfl, h2, h3⟩ := lq_of R r q
    rw [ints_ok h3 h] at h2
    exact ⟨a, rfl, h2⟩
theorem db_sum : DenB T (rSum T.K) bSum := by
  intro ds vs H P ι F s Q E R r post
  unfold bSum at post
  split at post
  · obtain ⟨v, rfl, h1⟩ := rps1 r
    split at post
    · rename_i ns h
      obtain ⟨a, rfl, h2⟩ := ints_at R h1 h
      exact ⟨a, ns, rfl, h2, post.here R (by unfold Rp; rfl)⟩
    · exact post.elim
  · exact post.elim
theorem db_maxL : DenB T (rMax T.K) bMaxL := by
  intro ds vs H P ι F s Q E R r post
  unfold bMaxL at post
  split at post
  · obtain ⟨v, rfl, h1⟩ := rps1 r
    split at post
    · rename_i ns h
      split at post
      · rename_i hne
        obtain ⟨a, rfl, h2⟩ := ints_at R h1 h
        refine ⟨a, ns, rfl, h2, List.length_pos_iff.mpr hne, fun m hm hb => ?_⟩
        cases ns with
        | nil => exact absurd rfl hne
        | cons n ns =>
          have e : maxI (n :: ns) = m := foldl_max (List.mem_cons.mp hm) (hb n List.mem_cons_self) fun y hy => hb y (List.mem_cons_of_mem _ hy)
          rw [e] at post
          exact post.here R (by unfold Rp; rfl)
      · exact post.elim
    · exact post.elim
  · exact post.elim
theorem db_minL : DenB T (rMin T.K) bMinL := by
  intro ds vs H P ι F s Q E R r post
  unfold bMinL at post
  split at post
  · obtain ⟨v, rfl, h1⟩ := rps1 r
    split at post
    · rename_i ns h
      split at post
      · rename_i hne
        obtain ⟨a, rfl, h2⟩ := ints_at R h1 h
        refine ⟨a, ns, rfl, h2, List.length_pos_iff.mpr hne, fun m hm hb => ?_⟩
        cases ns with
        | nil => exact absurd rfl hne
        | cons n ns =>
          have e : minI (n :: ns) = m := foldl_min (List.mem_cons.mp hm) (hb n List.mem_cons_self) fun y hy => hb y (List.mem_cons_of_mem _ hy)
          rw [e] at post
          exact post.here R (by unfold Rp; rfl)
      · exact post.elim
    · exact post.elim
  · exact post.elim
end
/-! ## max(xs, default=d) -/
def rMaxDf (K : PySem.W.Frag) : List V → List V → Hp → VK → Prop := fun xs zs H Q => ∃ (a : Addr) (ns : List Int) (d : Int), xs = [.ref a] ∧ zs = [.int d] ∧ SqL K H a (ns.map V.int) ∧ Q (.int (if ns = [] then d else maxI ns)) H
theorem reads_ints {h : Heap} : ∀ {ns : List Int} {us : List Value}, Vals (ns.map V.int) us → ReadsAll h us (ns.map PyData.int) []
  | [], _, .nil => .nil
  | n :: ns, _, .cons r t => by
    obtain ⟨k, rfl⟩ := r
    exact .cons (.int n k) (reads_ints t)
theorem ints_layK : ∀ ns : List Int, PyData.depthAll (ns.map PyData.int) = 0
  | [] => rfl
  | n :: ns => by
    rw [List.map_cons]
    unfold PyData.depthAll
    rw [ints_layK ns]; rfl
theorem crk_max {X : Cx} (hc : X.calm = true) (hu : X.A.units + 64 < cLine) : CallRK X (.builtin "max") [Str.ofString "default"] (rMaxDf X.K) := by
  intro pins s σ H xs zs us ws Q I r rz h
  obtain ⟨a, ns, d, rfl, rfl, hs, q⟩ := h
  obtain ⟨its, rv, hl, _⟩ := I.list hs
  rw [Vals.ref1 r]
  obtain ⟨wd, rfl, td, rfl⟩ := rz.one
  have dep : PyData.depthAll (ns.map PyData.int) = 0 := (ints_layK ns)
  have hr := reads_ints (h := s.heap) rv
  have alk : PySem.W.AlikeAll (ns.map PyData.int) := ⟨fun x hx y hy => by
    obtain ⟨i, _, rfl⟩ := List.mem_map.mp hx
    obtain ⟨j, _, rfl⟩ := List.mem_map.mp hy
    rfl, fun x hx => by
    obtain ⟨i, _, rfl⟩ := List.mem_map.mp hx
    intro z; cases z⟩
  show wpAny _ _ (call (.builtin "max") [.ref a] [(Str.ofString "default", Value.int d td)]) _ _ _
  refine PySem.W.max_list_default (I.ok.hd hc) hl.isList (by rw [List.toList_toArray]; exact hr) alk (by rw [dep]; omega) (fun e h' tk hk => ?_) (fun y ys i v h' tk bs e hv rd hk => ?_)
  · have e0 : ns = [] := by simpa using e
    rw [if_pos e0] at q
    exact ⟨.int d, H, I.kept hk, ⟨_, rfl⟩, q⟩
  · cases ns with
    | nil => cases e
    | cons n ns =>
      rw [List.map_cons] at e
      injection e with e1 e2
      subst e1 e2
      rw [PySem.W.maxD_ints] at rd
      rw [if_neg (by simp)] at q
      cases rd with
      | int i t => exact ⟨.int _, H, I.kept hk, ⟨_, rfl⟩, q⟩
end Mp
/-! # MpL -/
namespace Mp
open PySem PySem.Spec PyProof.Rows L2
/-! ## a list cell is walked: meanwhile nobody may touch it -/
section
variable {T : Tb} {P : Hp} {ι : List Addr} {F : Hp} {s : Sto} {H : Hp}
theorem RelH.hold (R : RelH T P ι F s H) {n : Nat} {a : Addr} {xs : List D} (hs : s[n]? = some (.lst xs)) (hi : ι[n]? = some a) : ∃ vs, H a = some (.lst vs) ∧ Rps T F ι xs vs ∧ F a = none ∧ P a = none ∧ RelH T (upd P a (.lst vs)) ι F (s.set n .dead) H := by
  obtain ⟨hF, vs, h1, h2⟩ := R.cell _ _ _ hs hi
  have hP := R.npr _ _ _ hs rfl hi
  have hn := (List.getElem?_eq_some_iff.mp hs).1
  have at_ : ∀ {m : Nat} {d : Cell}, (s.set n .dead)[m]? = some d → d.live = true → m ≠ n ∧ s[m]? = some d := fun {m d} h l => by
    by_cases e : n = m
    · subst e
      rw [List.getElem?_set_self hn] at h
      cases h
      cases l
    · rw [List.getElem?_set_ne e] at h
      exact ⟨fun z => e z.symm, h⟩
  have ne : ∀ {m : Nat} {d : Cell} {b : Addr}, (s.set n .dead)[m]? = some d → d.live = true → ι[m]? = some b → b ≠ a := fun {m d b} h l hb z => by
    subst z
    obtain ⟨h3, h4⟩ := at_ h l
    exact h3 (R.nod m n d _ b h4 hs l rfl hb hi)
  refine ⟨vs, h1, h2, hF, hP, ⟨R.sub, fun b u h => ?_, fun b u h => ?_, by simp [R.len], fun m d b h3 h4 => ?_, fun m d b h3 l h4 => ?_, fun m k c1 c2 b h3 h4 l1 l2 h5 h6 => R.nod m k c1 c2 b (at_ h3 l1).2 (at_ h4 l2).2 l1 l2 h5 h6⟩⟩
  · by_cases e : b = a
    · subst e; rw [upd_same] at h; cases h; exact h1
    · rw [upd_ne e] at h; exact R.pro b u h
  · by_cases e : b = a
    · subst e; exact hF
    · rw [upd_ne e] at h; exact R.dis b u h
  · cases hd : d.live with
    | false =>
      cases d with
      | dead => trivial
      | _ => cases hd
    | true => exact R.cell m d b (at_ h3 hd).2 h4
  · rw [upd_ne (ne h3 l h4)]; exact R.npr m d b (at_ h3 l).2 l h4
/-- .. and it is back -/
theorem RelH.back {vs : List V} {xs : List D} {n : Nat} {a : Addr} (R : RelH T (upd P a (.lst vs)) ι F s H) (hP : P a = none) (hs : s[n]? = some .dead) (hi : ι[n]? = some a) (r : Rps T F ι xs vs) : RelH T P ι F (s.set n (.lst xs)) H := by
  have hn := (List.getElem?_eq_some_iff.mp hs).1
  have hH : H a = some (.lst vs) := R.pro a _ upd_same
  have hF : F a = none := R.dis a _ upd_same
  have at_ : ∀ {m : Nat} {d : Cell}, (s.set n (.lst xs))[m]? = some d → (m = n ∧ d = .lst xs) ∨ (m ≠ n ∧ s[m]? = some d) := fun {m d} h => by
    by_cases e : n = m
    · subst e
      rw [List.getElem?_set_self hn] at h
      exact .inl ⟨rfl, (Option.some.inj h).symm⟩
    · rw [List.getElem?_set_ne e] at h
      exact .inr ⟨fun z => e z.symm, h⟩
  have hio : ∀ {b : Addr}, ι[n]? = some b → b = a := fun {b} h => by rw [hi] at h; exact (Option.some.inj h).symm
  have ne : ∀ {m : Nat} {d : Cell} {b : Addr}, s[m]? = some d → d.live = true → ι[m]? = some b → b ≠ a := fun {m d b} h l hb z => by
    subst z
    have := R.npr m d b h l hb
    rw [upd_same] at this
    cases this
  refine ⟨R.sub, fun b u h => R.pro b u (by rw [upd_ne (ne_of_none h hP)]; exact h), fun b u h => R.dis b u (by rw [upd_ne (ne_of_none h hP)]; exact h), by simp [R.len], fun m d b h1 h2 => ?_, fun m d b h1 l h2 => ?_, fun m k c1 c2 b h1 h2 l1 l2 h3 h4 => ?_⟩
  · rcases at_ h1 with ⟨rfl, rfl⟩ | ⟨hm, h1⟩
    · rw [hio h2]; exact ⟨hF, vs, hH, r⟩
    · exact R.cell m d b h1 h2
  · rcases at_ h1 with ⟨rfl, rfl⟩ | ⟨hm, h1⟩
    · rw [hio h2]; exact hP
    · have := R.npr m d b h1 l h2
      rw [upd_ne (ne h1 l h2)] at this
      exact this
  · rcases at_ h1 with ⟨e1, f1⟩ | ⟨hm, k1⟩
    · rcases at_ h2 with ⟨e2, f2⟩ | ⟨hk, k2⟩
      · rw [e1, e2]
      · exact absurd (hio (e1 ▸ h3)) (ne k2 l2 h4)
    · rcases at_ h2 with ⟨e2, f2⟩ | ⟨hk, k2⟩
      · exact absurd (hio (e2 ▸ h4)) (ne k1 l1 h3)
      · exact R.nod m k c1 c2 b k1 k2 l1 l2 h3 h4
end
/-- a store with the cell back -/
def bkS (n : Nat) (xs : List D) (s : Sto) : Option Sto := match s[n]? with
  | some .dead => some (s.set n (.lst xs))
  | _ => none
def Out.back (n : Nat) (xs : List D) : Out → Out
  | .nx δ s => match bkS n xs s with | some s' => .nx δ s' | none => .stuck
  | .bk δ s => match bkS n xs s with | some s' => .bk δ s' | none => .stuck
  | .ct δ s => match bkS n xs s with | some s' => .ct δ s' | none => .stuck
  | .rt d s => match bkS n xs s with | some s' => .rt d s' | none => .stuck
  | .ex c δ s => match bkS n xs s with | some s' => .ex c δ s' | none => .stuck
  | .stuck => .stuck
def Res.back {α : Type} (n : Nat) (xs : List D) : Res α → Res α
  | .ok d s => match bkS n xs s with | some s' => .ok d s' | none => .stuck
  | .exc c s => match bkS n xs s with | some s' => .exc c s' | none => .stuck
  | .stuck => .stuck
section
variable {T : Tb}
theorem bk_ok {P : Hp} {ι0 ι : List Addr} {F0 F : Hp} {s s' : Sto} {H : Hp} {vs : List V} {xs : List D} {n : Nat} {a : Addr} (g : Grow F0 ι0 F ι) (R : RelH T (upd P a (.lst vs)) ι F s H) (hP : P a = none) (hi : ι0[n]? = some a) (r : Rps T F0 ι0 xs vs) (h : bkS n xs s = some s') : RelH T P ι F s' H := by
  unfold bkS at h
  split at h
  · rename_i hs
    cases h
    exact R.back hP hs (g.at hi) (r.mono g)
  · cases h
theorem posts_back {P : Hp} {En : Ends} {W : WX} {F : Hp} {ι : List Addr} {vs : List V} {xs : List D} {n : Nat} {a : Addr} {o : Out} (hP : P a = none) (hi : ι[n]? = some a) (r : Rps T F ι xs vs) (post : PostS T P En W F ι (o.back n xs)) : PostS T (upd P a (.lst vs)) En W F ι o := by
  cases o with
  | stuck => exact post
  | nx δ s =>
    unfold Out.back at post; dsimp only at post
    cases q : bkS n xs s with
    | none => rw [q] at post; exact post.elim
    | some s' => rw [q] at post; exact fun σ' H' ι' F' g R E => post σ' H' ι' F' g (bk_ok g R hP hi r q) E
  | bk δ s =>
    unfold Out.back at post; dsimp only at post
    cases q : bkS n xs s with
    | none => rw [q] at post; exact post.elim
    | some s' => rw [q] at post; exact fun σ' H' ι' F' g R E => post σ' H' ι' F' g (bk_ok g R hP hi r q) E
  | ct δ s =>
    unfold Out.back at post; dsimp only at post
    cases q : bkS n xs s with
    | none => rw [q] at post; exact post.elim
    | some s' => rw [q] at post; exact fun σ' H' ι' F' g R E => post σ' H' ι' F' g (bk_ok g R hP hi r q) E
  | rt d s =>
    unfold Out.back at post; dsimp only at post
    cases q : bkS n xs s with
    | none => rw [q] at post; exact post.elim
    | some s' => rw [q] at post; exact fun v H' ι' F' g R rv => post v H' ι' F' g (bk_ok g R hP hi r q) rv
  | ex c δ s =>
    unfold Out.back at post; dsimp only at post
    cases q : bkS n xs s with
    | none => rw [q] at post; exact post.elim
    | some s' => rw [q] at post; exact fun σ' H' ι' F' g R E => post σ' H' ι' F' g (bk_ok g R hP hi r q) E
theorem post_back {α β : Type} {Rl : Hp → List Addr → α → β → Prop} {P : Hp} {Q : β → Hp → Prop} {E : Nat → Hp → Prop} {F : Hp} {ι : List Addr} {vs : List V} {xs : List D} {n : Nat} {a : Addr} {o : Res α} (hP : P a = none) (hi : ι[n]? = some a) (r : Rps T F ι xs vs) (post : Post T P Rl Q E F ι (o.back n xs)) : Post T (upd P a (.lst vs)) Rl Q E F ι o := by
  cases o with
  | stuck => exact post
  | ok d s =>
    unfold Res.back at post; dsimp only at post
    cases q : bkS n xs s with
    | none => rw [q] at post; exact post.elim
    | some s' => rw [q] at post; exact fun v H' ι' F' g R rv => post v H' ι' F' g (bk_ok g R hP hi r q) rv
  | exc c s =>
    unfold Res.back at post; dsimp only at post
    cases q : bkS n xs s with
    | none => rw [q] at post; exact post.elim
    | some s' => rw [q] at post; exact fun H' ι' F' g R => post H' ι' F' g (bk_ok g R hP hi r q)
end
/-! ## for, comprehensions over a list cell: the walk goes by the heap that stays, the protected part among it -/
def WalksP (T : Tb) (J : It) (ds : List D) (P F : Hp) (ι : List Addr) : Prop :=
  L2.Walk J ds.length (fun H => (∀ a o, F a = some o → H a = some o) ∧ ∀ a o, P a = some o → H a = some o) fun i H x H2 => ∃ d, ds[i]? = some d ∧
    ((H2 = H ∧ Rp T F ι d x) ∨ ∃ p vs xs, x = .ref p ∧ H p = none ∧ H2 = upd H p (.tup vs) ∧ d = .tup xs ∧ Rps T F ι xs vs)
theorem Walks.toP {T : Tb} {J : It} {ds : List D} {F : Hp} {ι : List Addr} (P : Hp) (w : Walks T J ds F ι) : WalksP T J ds P F ι := Walk.mono w (fun H h => h.1) fun _ _ _ _ _ _ y => y
theorem walksP_cell {T : Tb} {P F : Hp} {ι : List Addr} {a : Addr} {vs : List V} {ds : List D} (h : P a = some (.lst vs)) (r : Rps T F ι ds vs) : WalksP T (Itl T.K a) ds P F ι := by
  have w : L2.Walk (Itl T.K a) vs.length (fun H => SqL T.K H a vs) (YAt vs) := walk_list
  unfold WalksP
  rw [r.len]
  refine w.mono (fun H hF => SqL.of (hF.2 _ _ h)) fun i H x H' hi hF y => ?_
  obtain ⟨e1, e2⟩ := y
  have hi' : i < ds.length := by rw [r.len]; exact hi
  obtain ⟨d, hd⟩ := get_lt hi'
  obtain ⟨v, h1, h2⟩ := r.get hd
  rw [e2] at h1
  cases h1
  exact ⟨d, hd, .inl ⟨e1, h2⟩⟩
section
variable {T : Tb}
/-- the turns of a for, whatever was walked -/
theorem for_run {W : WX} {g : TG} {ws : List Nat} {t : DTg} {tb : TS} {body : DS} (hg : DenT T ws g t) (hb : DenS T W tb body) {J : It} {ds : List D} {En : Ends} {σ : L2.St} {H1 P : Hp} {ι1 : List Addr} {F1 : Hp} {δ : Env} {s1 : Sto} (w : WalksP T J ds P F1 ι1) (R1 : RelH T P ι1 F1 s1 H1) (E1 : REnv T F1 ι1 δ σ)
    (post1 : PostS T P En W F1 ι1 (forL t body ds δ s1)) :
    ∃ W' : Nat → Nat → L2.St → Hp → Prop, (∃ m, W' 0 m σ H1) ∧ ∀ i m σ H, W' i m σ H →
      (J.stop i H ∧ En.nx σ H) ∨ (J.go i H ∧ ∃ N : L2.St → Hp → Prop, (∀ σ' H', N σ' H' → ∃ m', m' < m ∧ W' (i + 1) m' σ' H') ∧ ∀ x H', J.yld i H x H' → g x σ H' fun σ2 H2 => tb { En with nx := N, ct := N, bk := En.nx } σ2 H2) := by
  refine for_it w (fun i σ' H' => ∃ ι' F' δ' s', Grow F1 ι1 F' ι' ∧ RelH T P ι' F' s' H' ∧ REnv T F' ι' δ' σ' ∧ PostS T P En W F' ι' (forL t body (ds.drop i) δ' s')) ⟨ι1, F1, δ, s1, Grow.refl _ _, R1, E1, by simpa using post1⟩ ?_ ?_ ?_
  · rintro i σ' H' _ ⟨ι', F', δ', s', g', R', E', _⟩
    exact ⟨fun a o h => R'.sub _ _ (g'.1 _ _ h), fun a o h => R'.pro _ _ h⟩
  · rintro i x σ' H' H2 hi ⟨ι', F', δ', s', g', R', E', post'⟩ ⟨d, hd, y⟩
    obtain ⟨F2, g2, R2, r2⟩ := item_ok g' R' y
    rw [drop_get hd] at post'
    unfold forL at post'
    cases q : t d δ' with
    | none => rw [q] at post'; exact post'.elim
    | some δ1 =>
      rw [q] at post'
      dsimp only at post'
      refine hg _ _ _ _ _ _ _ _ _ _ _ R2 (E'.mono g2) r2 q fun σ2 E2 _ => ?_
      refine hb _ _ _ _ _ _ _ _ R2 E2 ?_
      cases qb : body δ1 s' with
      | nx δ2 s2 =>
        rw [qb] at post'
        exact fun σ3 H3 ι3 F3 g3 R3 E3 => ⟨ι3, F3, δ2, s2, (g'.trans g2).trans g3, R3, E3, post'.mono (g2.trans g3)⟩
      | ct δ2 s2 =>
        rw [qb] at post'
        exact fun σ3 H3 ι3 F3 g3 R3 E3 => ⟨ι3, F3, δ2, s2, (g'.trans g2).trans g3, R3, E3, post'.mono (g2.trans g3)⟩
      | bk δ2 s2 => rw [qb] at post'; exact post'.mono g2
      | rt d2 s2 => rw [qb] at post'; exact post'.mono g2
      | ex c δ2 s2 => rw [qb] at post'; exact post'.mono g2
      | stuck => rw [qb] at post'; exact post'.elim
  · rintro σ' H' ⟨ι', F', δ', s', g', R', E', post'⟩
    rw [List.drop_length] at post'
    exact post' σ' H' ι' F' (Grow.refl _ _) R' E'
/-- for x in o, o a list, a tuple, a text, or a list cell -/
def sForA (f : DE) (t : DTg) (body : DS) : DS := fun δ s => (f δ s).out δ fun x s1 => match x with
  | .loc n => match s1[n]? with
    | some (.lst xs) => (forL t body xs δ (s1.set n .dead)).back n xs
    | _ => .stuck
  | .lst xs => forL t body xs δ s1
  | .scr ns => forL t body (ns.map D.int) δ s1
  | .tup xs => forL t body xs δ s1
  | .str z => forL t body (z.map fun c => D.str [c]) δ s1
  | _ => .stuck
theorem s_forA {X : Cx} {tg iter : Expr} {body : List Stmt} {pos : Pos} {f : DE} {ws : List Nat} {t : DTg} {g : DS} (hi : PDe T X iter f) (hg : PDg T X tg ws t) (hb : PDb T X body g) (hc : X.calm = true := by rfl) (hs : ∀ x, foldedSetIterable iter X.env x = pure x := by intro _; rfl) (hK : X.K = T.K := by rfl) :
    PDs T X (.For tg iter body [] pos) (sForA f t g) := fun pn xe W tk ow => by
  obtain ⟨t1, p1, d1⟩ := hi pn xe W tk
  obtain ⟨g1, p2, d2⟩ := hg pn xe
  obtain ⟨tb, p3, d3⟩ := hb pn xe W tk ow
  have hK' : (X.tr pn xe).K = T.K := hK
  have wi : PI (X.tr pn xe) tg iter (fun σ H R => (iList T.K t1 σ H R ∨ iTup T.K t1 σ H R) ∨ iStr t1 σ H R) := by
    have := PI.or (PI.or (pi_list (X := X.tr pn xe) (tg := tg) p1) (pi_tup p1)) (pi_str p1)
    rw [hK'] at this
    exact this
  refine ⟨_, ps_for (X := X.tr pn xe) ow hc wi p2 p3 hs, fun En σ H P ι F δ s R E post => ?_⟩
  have post0 : PostS T P En W F ι ((f δ s).out δ fun x s1 => match x with
    | .loc n => match s1[n]? with
      | some (.lst xs) => (forL t g xs δ (s1.set n .dead)).back n xs
      | _ => .stuck
    | .lst xs => forL t g xs δ s1
    | .scr ns => forL t g (ns.map D.int) δ s1
    | .tup xs => forL t g xs δ s1
    | .str z => forL t g (z.map fun c => D.str [c]) δ s1
    | _ => .stuck) := post
  cases e : f δ s with
  | stuck => rw [e] at post0; exact post0.elim
  | exc k s1 =>
    rw [e] at post0
    refine .inl (.inl ?_)
    show t1 σ H _
    refine d1 σ H P ι F δ s _ R E ?_
    rw [e]
    exact fun H' ι' F' g R' => post0 σ H' ι' F' g R' (E.mono g)
  | ok x s1 =>
    rw [e] at post0
    have run : ∀ {G : V → Hp → Prop}, (∀ v H' ι' F', Grow F ι F' ι' → RelH T P ι' F' s1 H' → Rp T F' ι' x v → G v H') → t1 σ H G := fun {G} h => by
      refine d1 σ H P ι F δ s G R E ?_
      rw [e]
      exact h
    cases x with
    | lst xs =>
      refine .inl (.inl ?_)
      show t1 σ H _
      refine run fun v H1 ι1 F1 g1 R1 r1 => ?_
      unfold Rp at r1
      obtain ⟨a, vs, rfl, h1, h2⟩ := r1
      exact ⟨a, rfl, ⟨vs, SqL.of (R1.sub _ _ h1)⟩, for_run d2 d3 ((walks_list (SqL.of h1) h2).toP P) R1 (E.mono g1) (PostS.mono g1 post0)⟩
    | scr ns =>
      refine .inl (.inl ?_)
      show t1 σ H _
      refine run fun v H1 ι1 F1 g1 R1 r1 => ?_
      unfold Rp at r1
      obtain ⟨a, rfl, h1⟩ := r1
      exact ⟨a, rfl, ⟨_, sql_mono R1.sub h1⟩, for_run d2 d3 ((walks_list h1 (rps_ints ns)).toP P) R1 (E.mono g1) (PostS.mono g1 post0)⟩
    | tup xs =>
      refine .inl (.inr ?_)
      show t1 σ H _
      refine run fun v H1 ι1 F1 g1 R1 r1 => ?_
      obtain ⟨a, vs, rfl, h1, h0, h2⟩ := tp_of R1 r1
      exact ⟨a, rfl, ⟨vs, SqT.of h1⟩, for_run d2 d3 ((walks_tup h0 h2).toP P) R1 (E.mono g1) (PostS.mono g1 post0)⟩
    | str z =>
      refine .inr ?_
      show t1 σ H _
      refine run fun v H1 ι1 F1 g1 R1 r1 => ?_
      unfold Rp at r1
      exact ⟨S z, r1, for_run d2 d3 ((walks_str z).toP P) R1 (E.mono g1) (PostS.mono g1 post0)⟩
    | loc n =>
      refine .inl (.inl ?_)
      show t1 σ H _
      refine run fun v H1 ι1 F1 g1 R1 r1 => ?_
      have post1 : PostS T P En W F ι (match s1[n]? with
        | some (.lst xs) => (forL t g xs δ (s1.set n .dead)).back n xs
        | _ => .stuck) := post0
      unfold Rp at r1
      obtain ⟨a, e1, rfl⟩ := r1
      split at post1
      · rename_i xs hs1
        obtain ⟨vs, h1, h2, h3, h4, R2⟩ := R1.hold hs1 e1
        refine ⟨a, rfl, ⟨vs, SqL.of h1⟩, for_run d2 d3 (walksP_cell (P := upd P a (.lst vs)) upd_same h2) R2 (E.mono g1) (posts_back h4 e1 h2 (PostS.mono g1 post1))⟩
      · exact post1.elim
    | _ => exact post0.elim
end
end Mp
/-! # MpM -/
namespace Mp
open PySem PySem.Spec PyProof.Rows L2
/-! ## the head's Bools: methods by the table, classes without an __init__, isinstance -/
def moB (l : List (Str × Str × Str)) (K : PySem.W.Frag) : Bool := l.all fun q => decide (PySem.W.findIn K (.ref (He.ga K q.1)) q.2.1 = some (some (.ref (He.ma K (He.ga K q.2.2) q.2.1)))) && (PySem.W.isFn K (.ref (He.ma K (He.ga K q.2.2) q.2.1)) && PySem.W.keepIn K (.ref (He.ma K (He.ga K q.2.2) q.2.1)))
theorem mo_ok {l : List (Str × Str × Str)} {K : PySem.W.Frag} (h : moB l K = true) {c m b : Str} (hm : (c, m, b) ∈ l) : Meth K (He.ga K c) m (He.ma K (He.ga K b) m) := by
  unfold moB at h
  have z := List.all_eq_true.mp h _ hm
  simp only [Bool.and_eq_true, decide_eq_true_eq] at z
  exact ⟨z.1, z.2.1, z.2.2⟩
def mk0B (l : List Str) (K : PySem.W.Frag) : Bool := l.all fun c => PySem.W.makesIn K (He.ga K c) && (decide (PySem.W.findIn K (.ref (He.ga K c)) "__init__" = some (some (.builtin "object.__init__"))) && (decide (PySem.W.mroIn K (He.ga K c) (.type "object") = some true) && PySem.W.keepIn K (.ref (He.ga K c))))
theorem mk0_ok {l : List Str} {K : PySem.W.Frag} (h : mk0B l K = true) {c : Str} (hm : c ∈ l) : Mk0 K (He.ga K c) := by
  unfold mk0B at h
  have z := List.all_eq_true.mp h _ hm
  simp only [Bool.and_eq_true, decide_eq_true_eq] at z
  exact ⟨z.1, z.2.1, z.2.2.1, z.2.2.2⟩
abbrev kiTy : List String := ["NoneType", "bool", "int", "str", "list", "tuple", "dict"]
def kiB (ca : PySem.W.Frag → Nat → Addr) (par : List Nat) (cs : List Nat) (K : PySem.W.Frag) : Bool :=
  cs.all fun d => (cs.all fun c => decide (PySem.W.kitOne K (.ref (ca K c)) (.ref (ca K d)) = some (ancF par par.length c d))) && kiTy.all fun t => decide (PySem.W.kitOne K (.type t) (.ref (ca K d)) = some false)
structure KiT (K : PySem.W.Frag) (ca : Nat → Addr) (par : List Nat) (cs : List Nat) : Prop where
  own : ∀ c ∈ cs, ∀ d ∈ cs, PySem.W.kitOne K (.ref (ca c)) (.ref (ca d)) = some (ancF par par.length c d)
  ty : ∀ t ∈ kiTy, ∀ d ∈ cs, PySem.W.kitOne K (.type t) (.ref (ca d)) = some false
theorem kiT_of {ca : PySem.W.Frag → Nat → Addr} {par cs : List Nat} {K : PySem.W.Frag} (h : kiB ca par cs K = true) : KiT K (ca K) par cs := by
  unfold kiB at h
  rw [List.all_eq_true] at h
  refine ⟨fun c hc d hd => ?_, fun t ht d hd => ?_⟩
  · have z := h d hd
    rw [Bool.and_eq_true] at z
    exact of_decide_eq_true (List.all_eq_true.mp z.1 c hc)
  · have z := h d hd
    rw [Bool.and_eq_true] at z
    exact of_decide_eq_true (List.all_eq_true.mp z.2 t ht)
section
variable {T : Tb} {X : Cx}
/-! ## isinstance, own classes among -/
def bIsO (parT par cs : List Nat) : DB := fun ds s => match ds with
  | [.exc k, c] => bIsA parT [.exc k, c] s
  | [x, .cls d] => if d ∈ cs then match obOf s x with
    | some (c, _, _) => if c ∈ cs then .ok (.bl (ancF par par.length c d)) s else .stuck
    | none => match tyOf s x with
      | some t => if t ∈ kiTy then .ok (.bl false) s else .stuck
      | none => .stuck
    else .stuck
  | ds => bIsA parT ds s
theorem db_isO {parT par cs : List Nat} {nF n1 : Nat} (x1 : ExT T.K T.ca parT n1) (ob : ObT T.K T.ca T.fm cs nF) (ki : KiT T.K T.ca par cs) : DenB T (rIsA T.K) (bIsO parT par cs) := by
  intro ds vs H P ι F s Q E R r post
  unfold bIsO at post
  split at post
  · exact db_isA x1 _ _ _ _ _ _ _ _ _ R r post
  · obtain ⟨v, u, rfl, h1, h2⟩ := rps2 r
    unfold Rp at h2
    subst h2
    split at post
    · rename_i hd
      split at post
      · rename_i c ns us q
        split at post
        · rename_i hc
          obtain ⟨a, dx, fs, rfl, h3, _, _⟩ := ob_of R h1 q
          exact .inl ⟨_, _, _, _, _, rfl, .own _, .base (.ins h3 (ob.cls c hc) (ob.ha c hc) ob.hn ob.htk (ob.hm c hc)), ki.own c hc _ hd, post.here R (by unfold Rp; rfl)⟩
        · exact post.elim
      · split at post
        · rename_i t ht
          split at post
          · rename_i hk
            exact .inl ⟨_, _, _, _, _, rfl, .own _, ty_ok R h1 ht, ki.ty _ hk _ hd, post.here R (by unfold Rp; rfl)⟩
          · exact post.elim
        · exact post.elim
    · exact post.elim
  · exact db_isA x1 _ _ _ _ _ _ _ _ _ R r post
/-! ## a cell that was just made stays as it is -/
def frzL (n : Nat) : Res D → Res D
  | .ok (.loc m) s2 => match s2[n]? with
    | some (.lst xs) => if (decide (m = n) && (decide (s2.length = n + 1) && (belows n xs && (s2.take n).all (Cell.below n)))) = true then .ok (.lst xs) (s2.take n) else .stuck
    | _ => .stuck
  | .exc k s2 => cutX n k s2
  | _ => .stuck
theorem post_frzL {P : Hp} {ι : List Addr} {F : Hp} {s : Sto} {H : Hp} {Q : VK} {E : Nat → Hp → Prop} {r : Res D} (R : RelH T P ι F s H) (post : Post T P (Rp T) Q E F ι (frzL s.length r)) : Post T P (Rp T) Q E F ι r := by
  cases r with
  | stuck => exact post
  | exc k s2 =>
    have post' : Post T P (Rp T) Q E F ι (cutX s.length k s2) := post
    unfold cutX at post'
    split at post'
    · exact post'
    · split at post'
      · rename_i hb
        simp only [Bool.and_eq_true, decide_eq_true_eq] at hb
        exact fun H' ι' F' g R' => post' H' _ F' (takeG g R.len) (R'.cut hb.2)
      · exact post'.elim
  | ok d s2 =>
    cases d with
    | loc m =>
      unfold frzL at post
      dsimp only at post
      split at post
      · rename_i xs hs
        split at post
        · rename_i hb
          simp only [Bool.and_eq_true, decide_eq_true_eq] at hb
          obtain ⟨rfl, hb1, hb2, hb3⟩ := hb
          intro v H' ι' F' g R' rv
          unfold Rp at rv
          obtain ⟨a, e1, rfl⟩ := rv
          obtain ⟨h1, fs, h2, h4⟩ := R'.cell _ _ _ hs e1
          have R2 := R'.freeze hs rfl e1 h1 h2
          have g2 : Grow F' ι' (upd F' a (.lst fs)) ι' := grow_new h1 _
          have e3 : (s2.set s.length .dead).take s.length = s2.take s.length := by
            rw [List.take_set, List.set_eq_of_length_le (by rw [List.length_take]; omega)]
          have R3 := R2.cut (n := s.length) (by rw [e3]; exact hb3)
          rw [e3] at R3
          refine post (.ref a) H' _ _ (takeG (g.trans g2) R.len) R3 ?_
          unfold Rp
          exact ⟨a, fs, rfl, upd_same, (h4.mono g2).takeI hb2⟩
        · exact post.elim
      · exact post.elim
    | _ => exact post.elim
def dFrz (f : DE) : DE := fun δ s => frzL s.length (f δ s)
theorem d_frz {e : Expr} {f : DE} (h : PDe T X e f) : PDe T X e (dFrz f) := fun pn xe W tk => by
  obtain ⟨t1, p1, d1⟩ := h pn xe W tk
  exact ⟨t1, p1, fun σ H P ι F δ s Q R E post => d1 σ H P ι F δ s Q R E (post_frzL R post)⟩
/-- list + list, as a cell -/
def oAddC : DOp := fun x y s => match lsOf s x, lsOf s y with
  | some a, some b => if a.length + b.length ≤ lim then .ok (.loc s.length) (s ++ [.lst (a ++ b)]) else .stuck
  | _, _ => .stuck
theorem do_addC : DenOp T (rAddA T.K) oAddC := by
  intro x y dx dy H P ι F s Q E R rx ry post
  unfold oAddC at post
  split at post
  · rename_i a b h1 h2
    obtain ⟨p, vs, rfl, e1, e2⟩ := ls_of R rx h1
    obtain ⟨q, us, rfl, e3, e4⟩ := ls_of R ry h2
    split at post
    · rename_i hl
      refine .inr (.inr (.inl ⟨p, q, vs, us, rfl, rfl, e1, e3, by rw [← e2.len, ← e4.len]; exact lim_le hl, fun l hl => post_loc post R hl ?_⟩))
      exact ⟨R.freeF hl, _, upd_same, (e2.app e4).mono (grow_app _ _ _)⟩
    · exact post.elim
  · exact post.elim
/-! ## list.clear, .reverse, .pop -/
def mClear : DM
  | .loc n, [], s => match s[n]? with
    | some (.lst _) => .ok .non (s.set n (.lst []))
    | _ => .stuck
  | _, _, _ => .stuck
theorem dm_clear : DenM T rClear mClear := by
  intro d ds v vs H P ι F s Q E R r rs post
  unfold mClear at post
  split at post
  · rename_i n
    cases (show vs = [] by unfold Rps at rs; exact rs)
    unfold Rp at r
    obtain ⟨a, e1, rfl⟩ := r
    split at post
    · rename_i xs hs
      obtain ⟨h2, us, h3, h4⟩ := lc_of R hs e1
      refine ⟨a, us, rfl, rfl, h3, ?_⟩
      exact post .non _ ι F (Grow.refl _ _) (R.setC hs rfl e1 ⟨h2, _, upd_same, .nil⟩) (by unfold Rp; rfl)
    · exact post.elim
  · exact post.elim
theorem Rps.rev {F : Hp} {ι : List Addr} : ∀ {ds : List D} {vs : List V}, Rps T F ι ds vs → Rps T F ι ds.reverse vs.reverse
  | [], vs, h => by unfold Rps at h; subst h; exact .nil
  | d :: ds, vs, h => by
    unfold Rps at h
    obtain ⟨v, us, rfl, h1, h2⟩ := h
    rw [List.reverse_cons, List.reverse_cons]
    exact (Rps.rev h2).app (.cons h1 .nil)
def mReverse : DM
  | .loc n, [], s => match s[n]? with
    | some (.lst xs) => .ok .non (s.set n (.lst xs.reverse))
    | _ => .stuck
  | _, _, _ => .stuck
theorem dm_reverse : DenM T rReverse mReverse := by
  intro d ds v vs H P ι F s Q E R r rs post
  unfold mReverse at post
  split at post
  · rename_i n
    cases (show vs = [] by unfold Rps at rs; exact rs)
    unfold Rp at r
    obtain ⟨a, e1, rfl⟩ := r
    split at post
    · rename_i xs hs
      obtain ⟨h2, us, h3, h4⟩ := lc_of R hs e1
      refine ⟨a, us, rfl, rfl, h3, ?_⟩
      exact post .non _ ι F (Grow.refl _ _) (R.setC hs rfl e1 ⟨h2, _, upd_same, h4.rev⟩) (by unfold Rp; rfl)
    · exact post.elim
  · exact post.elim
/-! ## list(range(a)) -/
def dListR (f : DE) : DE := fun δ s => (f δ s).bind fun x s1 => match x with
  | .int n => if 0 ≤ n ∧ n ≤ 1000 then .ok (.lst (intsD 0 n.toNat)) s1 else .stuck
  | _ => .stuck
theorem rgV_eq (n : Int) : rgV 0 n = (List.range n.toNat).map fun (i : Nat) => V.int (0 + (i : Int)) := by
  unfold rgV
  rw [show n - 0 = n by omega]
theorem rps_rg {F : Hp} {ι : List Addr} (n : Nat) : Rps T F ι (intsD 0 n) ((List.range n).map fun (i : Nat) => V.int (0 + (i : Int))) := by
  have := rps_ints (T := T) (F := F) (ι := ι) ((List.range n).map fun (i : Nat) => 0 + (i : Int))
  rw [List.map_map, List.map_map] at this
  exact this
theorem d_listR {a : Expr} {f : DE} {p p2 q pos : Pos} (hm : X.mg "list" = none) (hm2 : X.mg "range" = none) (ha : PDe T X a f) (hg : Gl X "list" := by rfl) (hg2 : Gl X "range" := by rfl) (hc : X.calm = true := by rfl)
    (na : starEach [a] X.env = (false, eval a X.env) :: starEach [] X.env := by rfl) (na2 : starEach [Expr.Call (.Name "range" p2) [a] [] q] X.env = (false, eval (Expr.Call (.Name "range" p2) [a] [] q) X.env) :: starEach [] X.env := by rfl) : PDe T X (.Call (.Name "list" p) [.Call (.Name "range" p2) [a] [] q] [] pos) (dListR f) := fun pn xe W tk => by
  obtain ⟨t1, p1, d1⟩ := ha pn xe W tk
  refine ⟨_, pe_listRg (X := X.tr pn xe) hc hg hm (prg_1 hg2 hm2 p1 na) na2, fun σ H P ι F δ s Q R E post => ?_⟩
  show t1 σ H _
  refine den_then d1 R E post fun x y H1 ι1 F1 s1 g1 R1 E1 r1 post1 => ?_
  split at post1
  · rename_i n
    unfold Rp at r1
    subst r1
    split at post1
    · rename_i hn
      refine ⟨n, rfl, RgOk.of_le (by omega) (by omega) (by omega) (by omega), fun q hq => ?_⟩
      refine post1.new R1 hq fun g => ?_
      unfold Rp
      refine ⟨q, _, rfl, upd_same, ?_⟩
      rw [rgV_eq]
      exact rps_rg _
    · exact post1.elim
  · exact post1.elim
/-! ## keywords -/
def PDkw (T : Tb) (X : Cx) (kws : List Keyword) (f : DA) : Prop := ∀ pn xe W, Takes (X.tr pn xe) W → ∃ t, PK (X.tr pn xe) kws t ∧ DenG T (RpsN T kws.length) W t f
theorem kw_nil : PDkw T X [] aNil := fun pn xe W _ => ⟨_, pk_nil, fun _ _ _ _ _ _ _ _ R _ post => post.here R ⟨.nil, rfl⟩⟩
theorem kw_one {nm : Option Str} {e : Expr} {kpos : Pos} {f : DE} (he : PDe T X e f) : PDkw T X [⟨nm, e, kpos⟩] (aCons f aNil) := fun pn xe W tk => by
  obtain ⟨t1, p1, d1⟩ := he pn xe W tk
  exact ⟨_, pk_cons p1 pk_nil, den_cons d1 (n := 0) fun _ _ _ _ _ _ _ _ R _ post => post.here R ⟨.nil, rfl⟩⟩
def bMaxD : List D → List D → Sto → Res D
  | [x], [.int d], s => match (lqOf s x).bind intsOf with
    | some ns => .ok (.int (if ns = [] then d else maxI ns)) s
    | none => .stuck
  | _, _, _ => .stuck
def dMaxD (fa fz : DA) : DE := fun δ s => (fa δ s).bind fun ds s1 => (fz δ s1).bind fun zs s2 => bMaxD ds zs s2
theorem d_maxD {e : Expr} {kws : List Keyword} {p pos : Pos} {fa fz : DA} (hm : X.mg "max" = none) (ha : PDa T X [e] fa) (hk : PDkw T X kws fz) (hc : X.calm = true := by rfl) (hu : X.A.units + 64 < cLine) (hg : Gl X "max" := by rfl) (hK : X.K = T.K := by rfl)
    (he : backTo pos (starEach [e] X.env) = (false, eval e X.env) :: backTo pos (starEach [] X.env) := by rfl) (hpl : (backTo pos (starEach [e] X.env)).any (·.1) = false := by rfl)
    (hall : (backToKw pos (keywordEach kws X.env)).all (·.1.isSome) = true := by rfl) (hnone : (backToKw pos (keywordEach kws X.env)).any (·.1.isNone) = false := by rfl) (hks : (backToKw pos (keywordEach kws X.env)).filterMap (·.1) = [Str.ofString "default"] := by rfl) :
    PDe T X (.Call (.Name "max" p) [e] kws pos) (dMaxD fa fz) := fun pn xe W tk => by
  obtain ⟨t1, p1, d1⟩ := ha pn xe W tk
  obtain ⟨t2, p2, d2⟩ := hk pn xe W tk
  have hK' : (X.tr pn xe).K = T.K := hK
  refine ⟨_, pe_callBK (X := X.tr pn xe) (crk_max hc hu) hg hm (by decide +kernel) p1 p2 (by decide) (by decide) he hpl hall hnone hks, fun σ H P ι F δ s Q R E post => ?_⟩
  rw [hK']
  show t1 σ H _
  refine den_then d1 R E post fun ds vs H1 ι1 F1 s1 g1 R1 E1 r1 post1 => ?_
  refine den_then d2 R1 E1 post1 fun zs ws H2 ι2 F2 s2 g2 R2 E2 r2 post2 => ?_
  have ra := r1.1.mono g2
  unfold bMaxD at post2
  split at post2
  · obtain ⟨v, e1, h1⟩ := rps1 ra
    obtain ⟨w, e2, h2⟩ := rps1 r2.1
    subst e1 e2
    unfold Rp at h2
    subst h2
    split at post2
    · rename_i ns hn
      obtain ⟨a, rfl, h3⟩ := ints_at R2 h1 hn
      exact ⟨a, ns, _, rfl, rfl, h3, post2.here R2 (by unfold Rp; rfl)⟩
    · exact post2.elim
  · exact post2.elim
/-! ## comprehensions over a list cell -/
/-- what is walked, and the cell that is held meanwhile -/
def itCel (x : D) (s : Sto) : Option (List D × Sto × Option (Nat × List D)) := match x with
  | .loc n => match s[n]? with
    | some (.lst xs) => some (xs, s.set n .dead, some (n, xs))
    | _ => none
  | .lst xs => some (xs, s, none)
  | .scr ns => some (ns.map D.int, s, none)
  | .tup xs => some (xs, s, none)
  | .str z => some (z.map fun c => D.str [c], s, none)
  | _ => none
def backO : Option (Nat × List D) → Res D → Res D
  | none, r => r
  | some (n, xs), r => r.back n xs
def dLcA (f : DE) (t : DTg) (c : DT) (e : DE) (vs : List Nat) : DE := fun δ s => (f δ s).bind fun x s1 => match itCel x s1 with
  | some (ds, s2, h) => backO h (lcL t c e (wipeE δ vs) ds [] s2)
  | none => .stuck
/-- the turns of a comprehension, whatever was walked -/
theorem lc_run {W : WX} {ws vs : List Nat} {t : DTg} {c : DT} {e : DE} (hs : ∀ i ∈ ws, i ∈ vs) {J : It} {ds : List D} {σ : L2.St} {H1 P : Hp} {ι1 : List Addr} {F1 : Hp} {δ : Env} {s1 : Sto} {Q : VK} (w : WalksP T J ds P F1 ι1) (R1 : RelH T P ι1 F1 s1 H1) (E1 : REnv T F1 ι1 δ σ)
    (post1 : Post T P (Rp T) Q (fun c H' => W (.ref (T.ca c)) none σ H') F1 ι1 (lcL t c e (wipeE δ vs) ds [] s1)) : ∀ L, H1 L = none →
    ∃ W' : Nat → Nat → Hp → Prop, (∃ m, W' 0 m (upd H1 L (.lst []))) ∧ ∀ i m H, W' i m H →
      (J.stop i H ∧ Q (.ref L) H) ∨ (J.go i H ∧ ∃ Nx : Hp → Prop, (∀ H', Nx H' → ∃ m', m' < m ∧ W' (i + 1) m' H') ∧ ∀ x H', J.yld i H x H' → canT T ws t x (L2.wipe σ vs) H' fun σ2 H2 => L2.wipe σ2 vs = L2.wipe σ vs ∧ canE T eqR W0 c σ2 H2 fun b H3 =>
        if b = true then canE T (Rp T) W0 e σ2 H3 (fun y H4 => ∃ ys, H4 L = some (.lst ys) ∧ ys.length < sizeLine ∧ Nx (upd H4 L (.lst (ys ++ [y])))) else Nx H3) := fun L hL => by
  have hPL : P L = none := R1.freeP hL
  refine lc_it w (fun i H' => ∃ ι' F' s' acc vacc, Grow F1 ι1 F' ι' ∧ RelH T (upd P L (.lst vacc)) ι' F' s' H' ∧ Rps T F' ι' acc vacc ∧
      Post T P (Rp T) Q (fun c H' => W (.ref (T.ca c)) none σ H') F' ι' (lcL t c e (wipeE δ vs) (ds.drop i) acc s'))
    ⟨ι1, F1, s1, [], [], Grow.refl _ _, R1.newP hL _, .nil, by simpa using post1⟩ ?_ ?_ ?_
  · rintro i H' _ ⟨ι', F', s', acc, vacc, g', R', _, _⟩
    exact ⟨fun a o h => R'.sub _ _ (g'.1 _ _ h), fun a o h => R'.pro _ _ (by rw [upd_ne (ne_of_none h hPL)]; exact h)⟩
  · rintro i x H' H2 hi' ⟨ι', F', s', acc, vacc, g', R', ra, post'⟩ ⟨d, hd, y⟩
    obtain ⟨F2, g2, R2, r2⟩ := item_ok g' R' y
    rw [drop_get hd] at post'
    unfold lcL at post'
    have Ew : REnv T F2 ι' (wipeE δ vs) (L2.wipe σ vs) := ((E1.mono g').mono g2).wipe vs
    cases q : t d (wipeE δ vs) with
    | none => rw [q] at post'; exact post'.elim
    | some δ1 =>
      rw [q] at post'
      dsimp only at post'
      refine ⟨_, ι', F2, _, δ1, s', d, R2, Ew, r2, q, fun σ2 E2 o2 => ⟨o2.wipe hs |>.trans ?_, ?_⟩⟩
      · refine List.ext_getElem? fun j => ?_
        rw [wipe_at, wipe_at, wipe_length]
        by_cases c : j ∈ vs ∧ j < σ.length
        · rw [if_pos c, if_pos c]
        · rw [if_neg c, if_neg c]
      · refine ⟨_, ι', F2, δ1, s', R2, E2, ?_⟩
        cases qc : c δ1 s' with
        | stuck => rw [qc] at post'; exact post'.elim
        | exc k s2 => rw [qc] at post'; exact post'.elim
        | ok b s2 =>
          rw [qc] at post'
          intro b' H3 ι3 F3 g3 R3 eb
          cases eb
          cases b with
          | false =>
            rw [if_neg Bool.false_ne_true]
            exact ⟨ι3, F3, s2, acc, vacc, (g'.trans g2).trans g3, R3, ra.mono (g2.trans g3), post'.mono (g2.trans g3)⟩
          | true =>
            rw [if_pos rfl]
            refine ⟨_, ι3, F3, δ1, s2, R3, E2.mono g3, ?_⟩
            dsimp only at post'
            cases qe : e δ1 s2 with
            | stuck => rw [qe] at post'; exact post'.elim
            | exc k s3 => rw [qe] at post'; exact post'.elim
            | ok z s3 =>
              rw [qe] at post'
              intro v H4 ι4 F4 g4 R4 rv
              dsimp only at post'
              have ra' := ra.mono ((g2.trans g3).trans g4)
              split at post'
              · rename_i hl
                refine ⟨vacc, R4.pro _ _ upd_same, by rw [← ra.len]; exact lim_lt (Nat.le_of_lt hl), ι4, F4, s3, acc ++ [z], vacc ++ [v], ((g'.trans g2).trans g3).trans g4, ?_, ra'.app (.cons rv .nil), post'.mono ((g2.trans g3).trans g4)⟩
                have := R4.setP (p := L) upd_same (.lst (vacc ++ [v]))
                rw [upd_upd] at this
                exact this
              · exact post'.elim
  · rintro H' ⟨ι', F', s', acc, vacc, g', R', ra, post'⟩
    rw [List.drop_length] at post'
    have R2 := R'.thaw hPL
    have gr : Grow F' ι' (upd F' L (.lst vacc)) ι' := grow_new (R'.dis L _ upd_same) _
    refine post' (.ref L) H' ι' _ gr R2 ?_
    unfold Rp
    exact ⟨L, vacc, rfl, upd_same, ra.mono gr⟩
theorem back_L {Q : VK} {E : Nat → Hp → Prop} {P F : Hp} {ι : List Addr} {h : Option (Nat × List D)} {r : Res D} (hn : h = none) (post : Post T P (Rp T) Q E F ι (backO h r)) : Post T P (Rp T) Q E F ι r := by
  subst hn
  exact post
theorem d_lcA {elt tg iter : Expr} {ifs : List Expr} {scope : Scope} {own : List (Str × Nat)} {pos : Pos} {f : DE} {ws : List Nat} {t : DTg} {c : DT} {e : DE} (hN : X.N.Nodup) (hi : PDe T X iter f) (ok : BlkOk X.N X.env.scope scope own)
    (hg : ∀ (s : Shared) (H : Hp) (C : Addr) (cl : List (Str × Addr)) (fp : List Addr), PDg T (Blk X scope s H C cl fp) tg ws t) (ht : ∀ (s : Shared) (H : Hp) (C : Addr) (cl : List (Str × Addr)) (fp : List Addr), PDts T (Blk X scope s H C cl fp) ifs c)
    (he : ∀ (s : Shared) (H : Hp) (C : Addr) (cl : List (Str × Addr)) (fp : List Addr), PDe T (Blk X scope s H C cl fp) elt e) (hs : ∀ i ∈ ws, i ∈ own.map (·.2) := by decide) (hf : ∀ x, foldedSetIterable iter X.env x = pure x := by intro _; rfl) (hc : X.calm = true := by rfl) (hK : X.K = T.K := by rfl) :
    PDe T X (.ListComp elt [⟨tg, iter, ifs, 0⟩] scope pos) (dLcA f t c e (own.map (·.2))) := fun pn xe W tk => by
  obtain ⟨t1, p1, d1⟩ := hi pn xe W tk
  have hK' : (X.tr pn xe).K = T.K := hK
  have wi : PI (X.tr pn xe) tg iter (fun σ H R => (iList T.K t1 σ H R ∨ iTup T.K t1 σ H R) ∨ iStr t1 σ H R) := by
    have := PI.or (PI.or (pi_list (X := X.tr pn xe) (tg := tg) p1) (pi_tup p1)) (pi_str p1)
    rw [hK'] at this
    exact this
  refine ⟨_, pe_lc (X := X.tr pn xe) (own := own) hc hN wi ok (g := canT T ws t) (tt := canE T eqR W0 c) (te := canE T (Rp T) W0 e) (fun s H C cl fp => ?_) (fun s H C cl fp => ?_) (fun s H C cl fp => ?_) hf, fun σ H P ι F δ s Q R E post => ?_⟩
  · obtain ⟨g, p, d⟩ := hg s H C cl fp [] (fun _ _ => False)
    exact PG.weak p fun v σ H Q q => d.can q
  · obtain ⟨g, p, d⟩ := ht s H C cl fp
    exact PTs.weak p fun σ H Q q => d.can q
  · obtain ⟨g, p, d⟩ := he s H C cl fp [] (fun _ _ => False) W0 takes0
    exact PE.weak p fun σ H Q q => d.can q
  have post0 : Post T P (Rp T) Q (fun c H' => W (.ref (T.ca c)) none σ H') F ι ((f δ s).bind fun x s1 => match itCel x s1 with
    | some (ds, s2, h) => backO h (lcL t c e (wipeE δ (own.map (·.2))) ds [] s2)
    | none => .stuck) := post
  cases ef : f δ s with
  | stuck => rw [ef] at post0; exact post0.elim
  | exc k s1 =>
    rw [ef] at post0
    refine .inl (.inl ?_)
    show t1 σ H _
    refine d1 σ H P ι F δ s _ R E ?_
    rw [ef]
    exact fun H' ι' F' g R' => post0 H' ι' F' g R'
  | ok x s1 =>
    rw [ef] at post0
    have run : ∀ {G : V → Hp → Prop}, (∀ v H' ι' F', Grow F ι F' ι' → RelH T P ι' F' s1 H' → Rp T F' ι' x v → G v H') → t1 σ H G := fun {G} h => by
      refine d1 σ H P ι F δ s G R E ?_
      rw [ef]
      exact h
    cases x with
    | lst xs =>
      refine .inl (.inl ?_)
      show t1 σ H _
      refine run fun v H1 ι1 F1 g1 R1 r1 => ?_
      unfold Rp at r1
      obtain ⟨a, vs, rfl, h1, h2⟩ := r1
      exact ⟨a, rfl, ⟨vs, SqL.of (R1.sub _ _ h1)⟩, lc_run hs ((walks_list (SqL.of h1) h2).toP P) R1 (E.mono g1) (Post.mono g1 post0)⟩
    | scr ns =>
      refine .inl (.inl ?_)
      show t1 σ H _
      refine run fun v H1 ι1 F1 g1 R1 r1 => ?_
      unfold Rp at r1
      obtain ⟨a, rfl, h1⟩ := r1
      exact ⟨a, rfl, ⟨_, sql_mono R1.sub h1⟩, lc_run hs ((walks_list h1 (rps_ints ns)).toP P) R1 (E.mono g1) (Post.mono g1 post0)⟩
    | tup xs =>
      refine .inl (.inr ?_)
      show t1 σ H _
      refine run fun v H1 ι1 F1 g1 R1 r1 => ?_
      obtain ⟨a, vs, rfl, h1, h0, h2⟩ := tp_of R1 r1
      exact ⟨a, rfl, ⟨vs, SqT.of h1⟩, lc_run hs ((walks_tup h0 h2).toP P) R1 (E.mono g1) (Post.mono g1 post0)⟩
    | str z =>
      refine .inr ?_
      show t1 σ H _
      refine run fun v H1 ι1 F1 g1 R1 r1 => ?_
      unfold Rp at r1
      exact ⟨S z, r1, lc_run hs ((walks_str z).toP P) R1 (E.mono g1) (Post.mono g1 post0)⟩
    | loc n =>
      refine .inl (.inl ?_)
      show t1 σ H _
      refine run fun v H1 ι1 F1 g1 R1 r1 => ?_
      have post1 : Post T P (Rp T) Q (fun c H' => W (.ref (T.ca c)) none σ H') F ι (match itCel (.loc n) s1 with
        | some (ds, s2, h) => backO h (lcL t c e (wipeE δ (own.map (·.2))) ds [] s2)
        | none => .stuck) := post0
      unfold Rp at r1
      obtain ⟨a, e1, rfl⟩ := r1
      unfold itCel at post1
      dsimp only at post1
      cases hs1 : s1[n]? with
      | none => rw [hs1] at post1; exact post1.elim
      | some cl =>
        rw [hs1] at post1
        cases cl with
        | lst xs =>
          obtain ⟨vs, h1, h2, h3, h4, R2⟩ := R1.hold hs1 e1
          exact ⟨a, rfl, ⟨vs, SqL.of h1⟩, lc_run hs (walksP_cell (P := upd P a (.lst vs)) upd_same h2) R2 (E.mono g1) (post_back h4 e1 h2 (Post.mono g1 post1))⟩
        | _ => exact post1.elim
    | _ => exact post0.elim
end
end Mp
/-! # MpN -/
namespace Mp
open PySem PySem.Spec PyProof.Rows L2
/-! ## defs, wherever they stand -/
structure Okd (T : Tb) (P : Program) (w : World) (mg : Str → Option Value) (base : Heap) (f : Addr) (k n : Nat) (φ : List D → Sto → Res D) : Prop where
  ex : ∃ (fd : FuncData) (ps : List Str), PySem.W.keepIn T.K (.ref f) = true ∧ Binds T.K fd ps [] ∧ FnOk P w T.K mg base (L2.CX P w) k f fd ps (spD T n φ)
section
variable {T : Tb} {P : Program} {w : World} {mg : Str → Option Value} {base : Heap} {f : Addr} {k n : Nat} {φ : List D → Sto → Res D}
theorem Okd.cl {x : Str} (h : Okd T P w mg base f k n φ) (g : mg x = some (.ref f)) : Cl T P w mg base x k n φ := by
  obtain ⟨fd, ps, h1, h2, h3⟩ := h.ex
  exact ⟨f, fd, ps, g, h1, h2, h3⟩
theorem Okd.mc {c : Nat} {m : Str} (h : Okd T P w mg base f k n φ) (hc : Cls T.K (T.ca c)) (hm : Meth T.K (T.ca c) m f) : Mc T P w mg base c m k n φ := by
  obtain ⟨fd, ps, h1, h2, h3⟩ := h.ex
  exact ⟨f, fd, ps, hc, hm, h2, h3⟩
theorem Okd.mkr {c : Nat} {x : Str} (h : Okd T P w mg base f k n φ) (hm : Mk T.K (T.ca c) f) (g : mg x = some (.ref (T.ca c))) : Mkc T P w mg base c x k n φ := by
  obtain ⟨fd, ps, h1, h2, h3⟩ := h.ex
  exact ⟨f, fd, ps, hm, g, h2, h3⟩
/-- what tells nothing is kept by every def -/
theorem fn_stuck {fd : FuncData} {ps : List Str} {CX : CXT} {K : PySem.W.Frag} : FnOk P w K mg base CX k f fd ps (spD T n fun _ _ => .stuck) := by
  have no : ∀ {vs H Q E}, spD T n (fun _ _ => .stuck) vs H Q E → False := fun {vs H Q E} h => by
    obtain ⟨_, _, _, _, _, _, _, _, post⟩ := h
    exact post
  exact ⟨fun _ _ _ _ h => (no h).elim, fun _ _ _ _ _ _ _ _ _ _ _ _ _ h => (no h).elim⟩
theorem Okd.zero {fd : FuncData} {ps : List Str} (h1 : PySem.W.keepIn T.K (.ref f) = true) (h2 : Binds T.K fd ps []) : Okd T P w mg base f k n fun _ _ => .stuck := ⟨fd, ps, h1, h2, fn_stuck⟩
end
end Mp
/-! # MpS -/
namespace Mp
open PySem PySem.Spec L2
/-! ## rows for computing with the deep program -/
section
variable {α β : Type}
@[simp] theorem bind_ok {a : α} {s : Sto} {k : α → Sto → Res β} : (Res.ok a s).bind k = k a s := rfl
@[simp] theorem bind_exc {c : Nat} {s : Sto} {k : α → Sto → Res β} : (Res.exc c s : Res α).bind k = .exc c s := rfl
@[simp] theorem bind_stuck {k : α → Sto → Res β} : (Res.stuck : Res α).bind k = .stuck := rfl
@[simp] theorem out_ok {δ : Env} {a : α} {s : Sto} {k : α → Sto → Out} : (Res.ok a s).out δ k = k a s := rfl
@[simp] theorem out_exc {δ : Env} {c : Nat} {s : Sto} {k : α → Sto → Out} : (Res.exc c s : Res α).out δ k = .ex c δ s := rfl
@[simp] theorem out_stuck {δ : Env} {k : α → Sto → Out} : (Res.stuck : Res α).out δ k = .stuck := rfl
end
section
variable {δ : Env} {s : Sto}
@[simp] theorem then_nx {k : DS} : (Out.nx δ s).andThen k = k δ s := rfl
@[simp] theorem then_rt {k : DS} {d : D} : (Out.rt d s).andThen k = .rt d s := rfl
@[simp] theorem then_bk {k : DS} : (Out.bk δ s).andThen k = .bk δ s := rfl
@[simp] theorem then_ct {k : DS} : (Out.ct δ s).andThen k = .ct δ s := rfl
@[simp] theorem then_ex {k : DS} {c : Nat} : (Out.ex c δ s).andThen k = .ex c δ s := rfl
@[simp] theorem then_stuck {k : DS} : Out.stuck.andThen k = .stuck := rfl
@[simp] theorem cut_same {d : D} : cut s.length d s = .ok d s := by unfold cut; rw [if_pos rfl]
@[simp] theorem cutX_same {c : Nat} : cutX s.length c s = .exc c s := by unfold cutX; rw [if_pos rfl]
@[simp] theorem cut_len {n : Nat} {d : D} (h : s.length = n) : cut n d s = .ok d s := by subst h; exact cut_same
theorem cutX_len {n : Nat} {c : Nat} (h : s.length = n) : cutX n c s = .exc c s := by subst h; exact cutX_same
@[simp] theorem cut_nil {d : D} : cut 0 d [] = .ok d [] := rfl
@[simp] theorem cutX_nil {c : Nat} : cutX 0 c [] = .exc c [] := rfl
@[simp] theorem fin_rt {n : Nat} {d : D} : finO n (.rt d s) = cut n d s := rfl
@[simp] theorem fin_nx {n : Nat} : finO n (.nx δ s) = cut n .non s := rfl
@[simp] theorem fin_ex {n c : Nat} : finO n (.ex c δ s) = cutX n c s := rfl
@[simp] theorem fin_stuck {n : Nat} : finO n .stuck = .stuck := rfl
@[simp] theorem dC_eq {d : D} : dC d δ s = .ok d s := rfl
@[simp] theorem dVar_eq {i : Nat} : dVar i δ s = match δ[i]? with
  | some (some d) => .ok d s
  | _ => .stuck := rfl
@[simp] theorem aNil_eq : aNil δ s = .ok [] s := rfl
@[simp] theorem aCons_eq {f : DE} {g : DA} : aCons f g δ s = (f δ s).bind fun x s1 => (g δ s1).bind fun xs s2 => .ok (x :: xs) s2 := rfl
@[simp] theorem dOp_eq {op : DOp} {f g : DE} : dOp op f g δ s = (f δ s).bind fun x s1 => (g δ s1).bind fun y s2 => op x y s2 := rfl
@[simp] theorem dCall_eq {φ : List D → Sto → Res D} {f : DA} : dCall φ f δ s = (f δ s).bind fun ds s1 => φ ds s1 := rfl
@[simp] theorem dBi_eq {φ : DB} {f : DA} : dBi φ f δ s = (f δ s).bind fun ds s1 => φ ds s1 := rfl
@[simp] theorem sSeq_eq {f g : DS} : sSeq f g δ s = (f δ s).andThen g := rfl
@[simp] theorem sSet_eq {i : Nat} {f : DE} : sSet i f δ s = (f δ s).out δ fun d s1 => .nx (δ.set i (some d)) s1 := rfl
@[simp] theorem sRet_eq {f : DE} : sRet f δ s = (f δ s).out δ fun d s1 => .rt d s1 := rfl
@[simp] theorem sRetN_eq : sRetN δ s = .rt .non s := rfl
@[simp] theorem sPass_eq : sPass δ s = .nx δ s := rfl
@[simp] theorem sBrk_eq : sBrk δ s = .bk δ s := rfl
@[simp] theorem sCt_eq : sCt δ s = .ct δ s := rfl
@[simp] theorem sDrop_eq {f : DE} : sDrop f δ s = (f δ s).out δ fun _ s1 => .nx δ s1 := rfl
@[simp] theorem sIf_eq {c : DT} {f g : DS} : sIf c f g δ s = (c δ s).out δ fun b s1 => if b = true then f δ s1 else g δ s1 := by
  unfold sIf
  cases c δ s with
  | ok b s1 => cases b <;> rfl
  | _ => rfl
@[simp] theorem tAnd_eq {f g : DT} : tAndD f g δ s = (f δ s).bind fun b s1 => if b = true then g δ s1 else .ok false s1 := by
  unfold tAndD
  cases f δ s with
  | ok b s1 => cases b <;> rfl
  | _ => rfl
@[simp] theorem tOr_eq {f g : DT} : tOrD f g δ s = (f δ s).bind fun b s1 => if b = true then .ok true s1 else g δ s1 := by
  unfold tOrD
  cases f δ s with
  | ok b s1 => cases b <;> rfl
  | _ => rfl
@[simp] theorem tNot_eq {f : DT} : tNotD f δ s = (f δ s).bind fun b s1 => .ok (!b) s1 := rfl
@[simp] theorem tst_eq {f : DE} : tst f δ s = (f δ s).bind fun x s1 => match x with
  | .bl b => .ok b s1
  | _ => .stuck := rfl
@[simp] theorem dIfE_eq {c : DT} {f g : DE} : dIfE c f g δ s = (c δ s).bind fun b s1 => if b = true then f δ s1 else g δ s1 := by
  unfold dIfE
  cases c δ s with
  | ok b s1 => cases b <;> rfl
  | _ => rfl
@[simp] theorem dAnd_eq {f g : DE} : dAndV f g δ s = (f δ s).bind fun x s1 => match x with
  | .bl true => g δ s1
  | .bl false => .ok (.bl false) s1
  | _ => .stuck := rfl
@[simp] theorem dOr_eq {f g : DE} : dOrV f g δ s = (f δ s).bind fun x s1 => match x with
  | .bl true => .ok (.bl true) s1
  | .bl false => g δ s1
  | _ => .stuck := rfl
@[simp] theorem dNot_eq {f : DE} : dNotV f δ s = (f δ s).bind fun x s1 => match x with
  | .bl b => .ok (.bl (!b)) s1
  | _ => .stuck := rfl
@[simp] theorem dChain_eq {op op' : DOp} {f g h : DE} : dChain op op' f g h δ s = (f δ s).bind fun x s1 => (g δ s1).bind fun y s2 => (op x y s2).bind fun z s3 => match z with
  | .bl true => (h δ s3).bind fun w s4 => op' y w s4
  | .bl false => .ok (.bl false) s3
  | _ => .stuck := rfl
@[simp] theorem dTup_eq {f : DA} : dTup f δ s = (f δ s).bind fun xs s1 => if xs.length ≤ lim then .ok (.tup xs) s1 else .stuck := rfl
@[simp] theorem dLst_eq {f : DA} : dLst f δ s = (f δ s).bind fun xs s1 => if xs.length ≤ lim then .ok (.lst xs) s1 else .stuck := rfl
@[simp] theorem dUn_eq {g : Int → Int} {f : DE} : dUn g f δ s = (f δ s).bind fun x s1 => match x with
  | .int i => .ok (.int (g i)) s1
  | _ => .stuck := rfl
@[simp] theorem dSl_eq {f : DE} {lo hi : DOI} : dSl f lo hi δ s = (f δ s).bind fun x s1 => (lo δ s1).bind fun l s2 => (hi δ s2).bind fun u s3 => oSl x l u s3 := rfl
theorem oSl_str {z : List Nat} {lo hi : Option Int} (h : z.length ≤ lim) : oSl (.str z) lo hi s = .ok (.str (cutL z lo hi)) s := if_pos h
@[simp] theorem pNone_eq : pNone δ s = .ok none s := rfl
@[simp] theorem pSome_eq {f : DE} : pSome f δ s = (f δ s).bind fun x s1 => match x with
  | .int i => .ok (some i) s1
  | _ => .stuck := rfl
@[simp] theorem tgN_eq {i : Nat} {d : D} : tgN i d δ = some (δ.set i (some d)) := rfl
@[simp] theorem tgT_eq {ts : List DTg} {xs : List D} : tgT ts (.tup xs) δ = tgs ts xs δ := rfl
@[simp] theorem tgs_nil : tgs [] [] δ = some δ := rfl
@[simp] theorem tgs_cons {t : DTg} {ts : List DTg} {d : D} {ds : List D} : tgs (t :: ts) (d :: ds) δ = (t d δ).bind fun δ1 => tgs ts ds δ1 := rfl
@[simp] theorem sAsg_eq {f : DE} {t : DTg} : sAsg f t δ s = (f δ s).out δ fun d s1 => match t d δ with
  | some δ1 => .nx δ1 s1
  | none => .stuck := rfl
/-! ### loops -/
@[simp] theorem sFor_eq {it : DIt} {t : DTg} {b : DS} : sFor it t b δ s = (it δ s).out δ fun ds s1 => forL t b ds δ s1 := rfl
@[simp] theorem forL_nil {t : DTg} {b : DS} : forL t b [] δ s = .nx δ s := rfl
theorem forL_cons {t : DTg} {b : DS} {d : D} {r : List D} : forL t b (d :: r) δ s = match t d δ with
  | none => .stuck
  | some δ1 => match b δ1 s with
    | .nx δ2 s2 => forL t b r δ2 s2
    | .ct δ2 s2 => forL t b r δ2 s2
    | .bk δ2 s2 => .nx δ2 s2
    | o => o := rfl
theorem forL_next {t : DTg} {b : DS} {d : D} {r : List D} {δ1 δ2 : Env} {s2 : Sto} (h : t d δ = some δ1) (k : b δ1 s = .nx δ2 s2) : forL t b (d :: r) δ s = forL t b r δ2 s2 := by
  rw [forL_cons, h]
  dsimp only
  rw [k]
theorem forL_stop {t : DTg} {b : DS} {d e : D} {r : List D} {δ1 : Env} {s2 : Sto} (h : t d δ = some δ1) (k : b δ1 s = .rt e s2) : forL t b (d :: r) δ s = .rt e s2 := by
  rw [forL_cons, h]
  dsimp only
  rw [k]
end
theorem forL_ok (I : Nat → Env → Sto → Prop) {t : DTg} {b : DS} : ∀ (ds : List D) (n : Nat), (∀ i d δ s, ds[i]? = some d → I (n + i) δ s → ∃ δ1 δ2 s2, t d δ = some δ1 ∧ (b δ1 s = .nx δ2 s2 ∨ b δ1 s = .ct δ2 s2) ∧ I (n + i + 1) δ2 s2) →
    ∀ (δ : Env) (s : Sto), I n δ s → ∃ δ' s', forL t b ds δ s = .nx δ' s' ∧ I (n + ds.length) δ' s'
  | [], n, _, δ, s, h => ⟨δ, s, rfl, h⟩
  | d :: r, n, turn, δ, s, h => by
    obtain ⟨δ1, δ2, s2, h1, h2, h3⟩ := turn 0 d δ s rfl h
    obtain ⟨δ', s', e, i⟩ := forL_ok I r (n + 1) (fun i d δ s hd hi => by
      have := turn (i + 1) d δ s (by simpa using hd) (by rw [show n + (i + 1) = n + 1 + i by omega]; exact hi)
      rw [show n + (i + 1) = n + 1 + i by omega] at this
      exact this) δ2 s2 h3
    refine ⟨δ', s', ?_, by rw [List.length_cons, show n + (r.length + 1) = n + 1 + r.length by omega]; exact i⟩
    rw [forL_cons, h1]
    dsimp only
    rcases h2 with h2 | h2 <;> rw [h2] <;> exact e
section
variable {δ : Env} {s : Sto}
@[simp] theorem sWh_eq {n : Nat} {c : DT} {b : DS} : sWh n c b δ s = whL c b n δ s := rfl
@[simp] theorem itSeq_eq {f : DE} : itSeq f δ s = (f δ s).bind fun x s1 => match x with
  | .lst xs => .ok xs s1
  | .scr ns => .ok (ns.map D.int) s1
  | .tup xs => .ok xs s1
  | _ => .stuck := by
  unfold itSeq
  cases f δ s with
  | ok x s1 => cases x <;> rfl
  | _ => rfl
@[simp] theorem itR1_eq {f : DA} : itR1 f δ s = (f δ s).bind fun xs s1 => match xs with
  | [.int n] => if small62 n = true then .ok (intsD 0 n.toNat) s1 else .stuck
  | _ => .stuck := rfl
@[simp] theorem itR2_eq {f : DA} : itR2 f δ s = (f δ s).bind fun xs s1 => match xs with
  | [.int a, .int b] => if (small62 a && small62 b) = true then .ok (intsD a (b - a).toNat) s1 else .stuck
  | _ => .stuck := rfl
@[simp] theorem itZip_eq {f : DA} : itZip f δ s = (f δ s).bind fun xs s1 => match xs with
  | [.lst a, .lst b] => .ok (zipD a b) s1
  | [.tup a, .tup b] => .ok (zipD a b) s1
  | _ => .stuck := rfl
@[simp] theorem dLc_eq {it : DIt} {t : DTg} {c : DT} {e : DE} {vs : List Nat} : dLc it t c e vs δ s = (it δ s).bind fun ds s1 => lcL t c e (wipeE δ vs) ds [] s1 := rfl
@[simp] theorem lcL_nil {t : DTg} {c : DT} {e : DE} {acc : List D} : lcL t c e δ [] acc s = .ok (.lst acc) s := rfl
theorem lcL_cons {t : DTg} {c : DT} {e : DE} {acc : List D} {d : D} {r : List D} : lcL t c e δ (d :: r) acc s = match t d δ with
  | none => .stuck
  | some δ1 => match c δ1 s with
    | .ok true s2 => match e δ1 s2 with
      | .ok y s3 => if acc.length < lim then lcL t c e δ r (acc ++ [y]) s3 else .stuck
      | _ => .stuck
    | .ok false s2 => lcL t c e δ r acc s2
    | _ => .stuck := rfl
@[simp] theorem cYes_eq : cYes δ s = .ok true s := rfl
@[simp] theorem wipeE_nil : wipeE δ [] = δ := rfl
@[simp] theorem wipeE_cons {v : Nat} {vs : List Nat} : wipeE δ (v :: vs) = (wipeE δ vs).set v none := rfl
/-! ### operators -/
@[simp] theorem oAdd_int {a b : Int} : oAdd (.int a) (.int b) s = .ok (.int (a + b)) s := rfl
@[simp] theorem oAdd_str {a b : List Nat} : oAdd (.str a) (.str b) s = if a.length + b.length ≤ lim then .ok (.str (a ++ b)) s else .stuck := rfl
@[simp] theorem oAdd_tup {a b : List D} : oAdd (.tup a) (.tup b) s = if a ≠ [] ∧ a.length + b.length ≤ lim then .ok (.tup (a ++ b)) s else .stuck := rfl
@[simp] theorem oAdd_lst {a b : List D} : oAdd (.lst a) (.lst b) s = if a.length + b.length ≤ lim then .ok (.lst (a ++ b)) s else .stuck := rfl
@[simp] theorem oInt_int {c : Int → Int → Bool} {g : Int → Int → Int} {a b : Int} : oInt c g (.int a) (.int b) s = if c a b = true then .ok (.int (g a b)) s else .stuck := rfl
@[simp] theorem oCmp_int {g : Int → Int → Bool} {a b : Int} : oCmp g (.int a) (.int b) s = .ok (.bl (g a b)) s := rfl
theorem oEq_sc {n b : Bool} {x y : D} (h : scD x y = some b) : oEqG n x y s = .ok (.bl (n != b)) s := by unfold oEqG; rw [h]
section
variable {n : Bool} {a b : Int} {x y : List Nat} {p q : Bool}
@[simp] theorem oEq_int : oEqG n (.int a) (.int b) s = .ok (.bl (n != (a == b))) s := rfl
@[simp] theorem oEq_str : oEqG n (.str x) (.str y) s = .ok (.bl (n != (x == y))) s := rfl
@[simp] theorem oEq_bl : oEqG n (.bl p) (.bl q) s = .ok (.bl (n != (p == q))) s := rfl
@[simp] theorem oEq_nn : oEqG n .non .non s = .ok (.bl (n != true)) s := rfl
@[simp] theorem oEq_ni : oEqG n .non (.int a) s = .ok (.bl (n != false)) s := rfl
@[simp] theorem oEq_ns : oEqG n .non (.str x) s = .ok (.bl (n != false)) s := rfl
@[simp] theorem oEq_nb : oEqG n .non (.bl p) s = .ok (.bl (n != false)) s := rfl
@[simp] theorem oEq_in : oEqG n (.int a) .non s = .ok (.bl (n != false)) s := rfl
@[simp] theorem oEq_sn : oEqG n (.str x) .non s = .ok (.bl (n != false)) s := rfl
@[simp] theorem oEq_bn : oEqG n (.bl p) .non s = .ok (.bl (n != false)) s := rfl
@[simp] theorem oEq_is : oEqG n (.int a) (.str x) s = .ok (.bl (n != false)) s := rfl
@[simp] theorem oEq_si : oEqG n (.str x) (.int a) s = .ok (.bl (n != false)) s := rfl
@[simp] theorem oEq_bs : oEqG n (.bl p) (.str x) s = .ok (.bl (n != false)) s := rfl
@[simp] theorem oEq_sb : oEqG n (.str x) (.bl p) s = .ok (.bl (n != false)) s := rfl
end
@[simp] theorem oIs_eq {n : Bool} {x : D} : oIs n x .non s = .ok (.bl (n != isNon x)) s := rfl
@[simp] theorem isNon_non : isNon .non = true := rfl
@[simp] theorem isNon_int {a : Int} : isNon (.int a) = false := rfl
@[simp] theorem isNon_str {a : List Nat} : isNon (.str a) = false := rfl
@[simp] theorem isNon_bl {a : Bool} : isNon (.bl a) = false := rfl
@[simp] theorem isNon_tup {a : List D} : isNon (.tup a) = false := rfl
@[simp] theorem isNon_lst {a : List D} : isNon (.lst a) = false := rfl
@[simp] theorem isNon_loc {a : Nat} : isNon (.loc a) = false := rfl
@[simp] theorem isNon_exc {a : Nat} : isNon (.exc a) = false := rfl
@[simp] theorem isNon_obj {a : Nat} {ns : List Nat} {vs : List D} : isNon (.obj a ns vs) = false := rfl
@[simp] theorem lqOf_lst {xs : List D} : lqOf s (.lst xs) = some xs := rfl
@[simp] theorem lqOf_scr {ns : List Int} : lqOf s (.scr ns) = some (ns.map D.int) := rfl
@[simp] theorem lqOf_tup {xs : List D} : lqOf s (.tup xs) = none := rfl
@[simp] theorem lsOf_lst {xs : List D} : lsOf s (.lst xs) = some xs := rfl
@[simp] theorem tpOf_tup {xs : List D} : tpOf (.tup xs) = some xs := rfl
@[simp] theorem oIx_lst {xs : List D} {i : Int} : oIx (.lst xs) (.int i) s = match atI xs i with
  | some d => .ok d s
  | none => .stuck := rfl
@[simp] theorem oIx_tup {xs : List D} {i : Int} : oIx (.tup xs) (.int i) s = match atI xs i with
  | some d => .ok d s
  | none => .stuck := rfl
@[simp] theorem oIx_scr {xs : List Int} {i : Int} : oIx (.scr xs) (.int i) s = match atI (xs.map D.int) i with
  | some d => .ok d s
  | none => .stuck := rfl
@[simp] theorem oIx_str {z : List Nat} {i : Int} : oIx (.str z) (.int i) s = if z.length ≤ lim then match atI z i with
    | some c => .ok (.str [c]) s
    | none => .stuck
    else .stuck := rfl
@[simp] theorem bLen_lst {xs : List D} : bLen [.lst xs] s = .ok (.int xs.length) s := rfl
@[simp] theorem bLen_tup {xs : List D} : bLen [.tup xs] s = .ok (.int xs.length) s := rfl
@[simp] theorem bLen_scr {xs : List Int} : bLen [.scr xs] s = .ok (.int xs.length) s := by unfold bLen; simp
@[simp] theorem bLen_str {z : List Nat} : bLen [.str z] s = if z.length ≤ lim then .ok (.int z.length) s else .stuck := rfl
@[simp] theorem b2I_eq {g : Int → Int → Int} {a b : Int} : b2I g [.int a, .int b] s = .ok (.int (g a b)) s := rfl
theorem lim_eq : lim = 1000000 := rfl
theorem cMul_l {i j : Int} (h : -18446744073709551616 < i ∧ i < 18446744073709551616) : cMul i j = true := by
  unfold cMul
  simp only [Bool.or_eq_true, Bool.and_eq_true, decide_eq_true_eq]
  left
  have e : (2 : Int) ^ 64 = 18446744073709551616 := by decide
  rw [e]
  exact h
theorem cMul_r {i j : Int} (h : -18446744073709551616 < j ∧ j < 18446744073709551616) : cMul i j = true := by
  unfold cMul
  simp only [Bool.or_eq_true, Bool.and_eq_true, decide_eq_true_eq]
  right
  have e : (2 : Int) ^ 64 = 18446744073709551616 := by decide
  rw [e]
  exact h
@[simp] theorem atI_natc {α : Type} {xs : List α} {i : Nat} : atI xs (i : Int) = xs[i]? := by
  unfold atI ixN
  by_cases h : i < xs.length
  · simp [h]
  · simp [h]
@[simp] theorem atI_lit {α : Type} {xs : List α} {i : Nat} : atI xs (no_index (OfNat.ofNat i)) = xs[i]? := atI_natc (i := i)
theorem atI_nat {α : Type} {xs : List α} {i : Nat} (h : i < xs.length) : atI xs (i : Int) = xs[i]? := by
  unfold atI ixN
  simp [h]
theorem atI_int {α : Type} {xs : List α} {i : Int} (h0 : 0 ≤ i) (h1 : i < xs.length) : atI xs i = xs[i.toNat]? := by
  obtain ⟨n, rfl⟩ := Int.eq_ofNat_of_zero_le h0
  exact atI_nat (by omega)
theorem atI_mem {α : Type} {xs : List α} {i : Int} (h0 : 0 ≤ i) (h1 : i < xs.length) : ∃ d, atI xs i = some d ∧ d ∈ xs := by
  rw [atI_int h0 h1]
  have h : i.toNat < xs.length := by omega
  exact ⟨xs[i.toNat], by simp [h], List.getElem_mem h⟩
theorem atI_ex {α : Type} {xs : List α} {i : Int} {Q : α → Prop} (h0 : 0 ≤ i) (h1 : i < xs.length) (h : ∀ d ∈ xs, Q d) : ∃ d, atI xs i = some d ∧ Q d :=
  let ⟨d, e, m⟩ := atI_mem h0 h1
  ⟨d, e, h d m⟩
theorem atI_cons0 {α : Type} {x : α} {xs : List α} : atI (x :: xs) (0 : Int) = some x := by
  rw [atI_int (by omega) (by simp)]
  rfl
end
/-! ### exceptions, cells, methods, texts -/
section
variable {δ : Env} {s : Sto}
@[simp] theorem sRaise_eq {c : Nat} : sRaise c δ s = .ex c δ s := rfl
theorem sTry_eq {anc : Nat → Nat → Option Bool} {c : Nat} {i : Option Nat} {f g : DS} : sTry anc c i f g δ s = match f δ s with
  | .ex k δ1 s1 => match anc k c with
    | some true => (g (setE i (some (.exc k)) δ1) s1).unset i
    | some false => .ex k δ1 s1
    | none => .stuck
  | o => o := rfl
theorem sTry_rt {anc : Nat → Nat → Option Bool} {c : Nat} {i : Option Nat} {f g : DS} {d : D} {s1 : Sto} (h : f δ s = .rt d s1) : sTry anc c i f g δ s = .rt d s1 := by rw [sTry_eq, h]
theorem sTry_nx {anc : Nat → Nat → Option Bool} {c : Nat} {i : Option Nat} {f g : DS} {δ1 : Env} {s1 : Sto} (h : f δ s = .nx δ1 s1) : sTry anc c i f g δ s = .nx δ1 s1 := by rw [sTry_eq, h]
theorem sTry_ex {anc : Nat → Nat → Option Bool} {c k : Nat} {i : Option Nat} {f g : DS} {δ1 : Env} {s1 : Sto} (h : f δ s = .ex k δ1 s1) (hk : anc k c = some true) : sTry anc c i f g δ s = (g (setE i (some (.exc k)) δ1) s1).unset i := by rw [sTry_eq, h]; dsimp only; rw [hk]
@[simp] theorem setE_some {i : Nat} {o : Option D} : setE (some i) o δ = δ.set i o := rfl
@[simp] theorem setE_none {o : Option D} : setE none o δ = δ := rfl
@[simp] theorem unset_nx {i : Option Nat} : (Out.nx δ s).unset i = .nx (setE i none δ) s := rfl
@[simp] theorem unset_rt {i : Option Nat} {d : D} : (Out.rt d s).unset i = .rt d s := rfl
@[simp] theorem unset_ct {i : Option Nat} : (Out.ct δ s).unset i = .ct (setE i none δ) s := rfl
@[simp] theorem dLstC_eq {f : DA} : dLstC f δ s = (f δ s).bind fun xs s1 => if xs.length ≤ lim then .ok (.loc s1.length) (s1 ++ [.lst xs]) else .stuck := rfl
@[simp] theorem sIxS_eq {f fo fi : DE} : sIxS f fo fi δ s = (f δ s).out δ fun d s1 => (fo δ s1).out δ fun o s2 => (fi δ s2).out δ fun i s3 => match setAt o i d s3 with
  | some s4 => .nx δ s4
  | none => .stuck := rfl
@[simp] theorem setAt_loc {n : Nat} {k : Int} {d : D} : setAt (.loc n) (.int k) d s = match s[n]? with
    | some (.lst xs) => match ixN xs.length k with
      | some j => some (s.set n (.lst (xs.set j d)))
      | none => none
    | _ => none := rfl
@[simp] theorem lqOf_loc {n : Nat} : lqOf s (.loc n) = match s[n]? with
    | some (.lst xs) => some xs
    | _ => none := rfl
@[simp] theorem lsOf_loc {n : Nat} : lsOf s (.loc n) = match s[n]? with
    | some (.lst xs) => some xs
    | _ => none := rfl
@[simp] theorem oIx_loc {n : Nat} {i : Int} : oIx (.loc n) (.int i) s = match (lqOf s (.loc n)).or none with
  | some xs => match atI xs i with
    | some d => .ok d s
    | none => .stuck
  | none => .stuck := rfl
@[simp] theorem dMt_eq {ty : String} {op : DM} {f : DE} {fa : DA} : dMt ty op f fa δ s = (f δ s).bind fun x s1 => if recvTy s1 x = some ty then (fa δ s1).bind fun xs s2 => op x xs s2 else .stuck := rfl
@[simp] theorem recvTy_str {z : List Nat} : recvTy s (.str z) = some "str" := rfl
@[simp] theorem recvTy_lst {z : List D} : recvTy s (.lst z) = some "list" := rfl
@[simp] theorem recvTy_scr {z : List Int} : recvTy s (.scr z) = some "list" := rfl
@[simp] theorem recvTy_loc {n : Nat} : recvTy s (.loc n) = match s[n]? with
    | some (.lst _) => some "list"
    | some (.dct _ _) => some "dict"
    | _ => none := rfl
@[simp] theorem mAppend_eq {n : Nat} {d : D} : mAppend (.loc n) [d] s = match s[n]? with
    | some (.lst xs) => if xs.length < lim then .ok .non (s.set n (.lst (xs ++ [d]))) else .stuck
    | _ => .stuck := rfl
@[simp] theorem itAny_eq {f : DE} : itAny f δ s = (f δ s).bind fun x s1 => match x with
  | .lst xs => .ok xs s1
  | .scr ns => .ok (ns.map D.int) s1
  | .tup xs => .ok xs s1
  | .str z => .ok (z.map fun c => D.str [c]) s1
  | _ => .stuck := by
  unfold itAny
  cases f δ s with
  | ok x s1 => cases x <;> rfl
  | _ => rfl
@[simp] theorem oInA_sign {neg : Bool} {c : Nat} {z : List Nat} : oInA neg (.str [c]) (.str z) s = .ok (.bl (neg != decide (c ∈ z))) s := rfl
theorem oInA_lst {neg : Bool} {x : D} {ys : List D} : oInA neg x (.lst ys) s = if (flatD x && ys.all flatD) = true then .ok (.bl (neg != ys.any fun y => eqF y x)) s else .stuck := by
  unfold oInA
  split
  · rename_i h; cases h
  · rfl
@[simp] theorem oInA_tup {neg : Bool} {x : D} {ys : List D} : oInA neg x (.tup ys) s = if (flatD x && ys.all flatD) = true then .ok (.bl (neg != ys.any fun y => eqF y x)) s else .stuck := by
  unfold oInA
  split
  · rename_i h; cases h
  · rfl
@[simp] theorem dFmt_eq {f : DE} : dFmt f δ s = (f δ s).bind fun x s1 => match x with
  | .str z => if z.length ≤ lim then .ok (.str z) s1 else .stuck
  | .int i => if i.natAbs.log2 < 1920 then .ok (.str (strI i)) s1 else .stuck
  | _ => .stuck := rfl
@[simp] theorem dJs_nil {acc : List Nat} : dJs [] acc δ s = .ok (.str acc) s := rfl
@[simp] theorem dJs_cons {f : DE} {fs : List DE} {acc : List Nat} : dJs (f :: fs) acc δ s = (f δ s).bind fun x s1 => match x with
    | .str z => if (acc ++ z).length ≤ lim then dJs fs (acc ++ z) δ s1 else .stuck
    | _ => .stuck := rfl
@[simp] theorem oMulA_int {a b : Int} : oMulA (.int a) (.int b) s = if cMul a b = true then .ok (.int (a * b)) s else .stuck := rfl
@[simp] theorem oMulA_lst {xs : List D} {k : Int} : oMulA (.lst xs) (.int k) s = if xs.length * k.toNat ≤ lim ∧ -(2 ^ 62) ≤ k ∧ k < 2 ^ 62 then .ok (.lst (List.replicate k.toNat xs).flatten) s else .stuck := rfl
@[simp] theorem dRepl_eq {y z : Str} {f : DE} : dRepl y z f δ s = (f δ s).bind fun x s1 => match x with
  | .str a => if a.length + (a.length + 1) * z.length ≤ lim then .ok (.str (un (Txt.replace (S a) y z))) s1 else .stuck
  | _ => .stuck := rfl
@[simp] theorem bInt_int {i : Int} : bInt [.int i] s = .ok (.int i) s := rfl
@[simp] theorem bInt_bl {b : Bool} : bInt [.bl b] s = .ok (.int (if b then 1 else 0)) s := rfl
@[simp] theorem bInt_str {z : List Nat} : bInt [.str z] s = match PySem.intText? (S z) with
    | some n => if z.length ≤ 640 then .ok (.int n) s else .stuck
    | none => .stuck := rfl
@[simp] theorem bStr_int {i : Int} : bStr [.int i] s = if i.natAbs.log2 < 1920 then .ok (.str (strI i)) s else .stuck := rfl
@[simp] theorem bDivmod_int {i j : Int} : bDivmod [.int i, .int j] s = if (decide (0 < j) && decide (j < 1073741824)) = true then .ok (.tup [.int (i / j), .int (i % j)]) s else .stuck := rfl
/-- a comprehension without a test, its values by a function; with a test -/
theorem lcL_map {t : DTg} {e : DE} (f : D → D) : ∀ (ds acc : List D), acc.length + ds.length ≤ lim → (∀ d ∈ ds, ∃ δ1, t d δ = some δ1 ∧ e δ1 s = .ok (f d) s) → lcL t cYes e δ ds acc s = .ok (.lst (acc ++ ds.map f)) s
  | [], acc, _, _ => by simp
  | d :: ds, acc, hl, h => by
    obtain ⟨δ1, h1, h2⟩ := h d List.mem_cons_self
    rw [List.length_cons] at hl
    rw [lcL_cons, h1]
    dsimp only
    rw [cYes_eq]
    dsimp only
    rw [h2]
    dsimp only
    rw [if_pos (by omega), lcL_map f ds (acc ++ [f d]) (by rw [List.length_append, List.length_singleton]; omega) fun d' hd => h d' (List.mem_cons_of_mem _ hd), List.append_assoc, List.map_cons]
    rfl
theorem lcL_fil {t : DTg} {c : DT} {e : DE} (f : D → D) (p : D → Bool) : ∀ (ds acc : List D), acc.length + ds.length ≤ lim → (∀ d ∈ ds, ∃ δ1, t d δ = some δ1 ∧ c δ1 s = .ok (p d) s ∧ (p d = true → e δ1 s = .ok (f d) s)) → lcL t c e δ ds acc s = .ok (.lst (acc ++ (ds.filter p).map f)) s
  | [], acc, _, _ => by simp
  | d :: ds, acc, hl, h => by
    obtain ⟨δ1, h1, h2, h3⟩ := h d List.mem_cons_self
    rw [List.length_cons] at hl
    rw [lcL_cons, h1]
    dsimp only
    rw [h2]
    cases hp : p d with
    | false =>
      dsimp only
      rw [lcL_fil f p ds acc (by omega) fun d' hd => h d' (List.mem_cons_of_mem _ hd), List.filter_cons_of_neg (by rw [hp]; exact Bool.false_ne_true)]
    | true =>
      dsimp only
      rw [h3 hp]
      dsimp only
      rw [if_pos (by omega), lcL_fil f p ds (acc ++ [f d]) (by rw [List.length_append, List.length_singleton]; omega) fun d' hd => h d' (List.mem_cons_of_mem _ hd), List.append_assoc, List.filter_cons_of_pos hp, List.map_cons]
      rfl
theorem bools_map {α : Type} (g : α → Bool) : ∀ l : List α, boolsOf (l.map fun x => D.bl (g x)) = some (l.map g)
  | [] => rfl
  | x :: l => by
    show (boolsOf (l.map fun x => D.bl (g x))).map (g x :: ·) = _
    rw [bools_map g l]; rfl
end
end Mp
/-! # MpT -/
namespace Mp
open PySem PySem.Spec L2
/-! ## equality of nested lists and tuples, by the deep values -/
def okS (z : List Nat) : Bool := z.all fun c => decide (c < 1114112)
mutual
def datD : Nat → D → Bool
  | _, .non => true
  | _, .bl _ => true
  | _, .int _ => true
  | _, .str z => okS z
  | n + 1, .lst xs => datDs n xs
  | n + 1, .tup xs => datDs n xs
  | _, _ => false
def datDs : Nat → List D → Bool
  | _, [] => true
  | n, x :: xs => datD n x && datDs n xs
end
mutual
def eqD : D → D → Bool
  | .lst xs, .lst ys => eqDs xs ys
  | .tup xs, .tup ys => eqDs xs ys
  | .non, .non => true
  | .bl a, .bl b => a == b
  | .bl a, .int b => (if a then 1 else 0) == b
  | .int a, .bl b => a == (if b then 1 else 0)
  | .int a, .int b => a == b
  | .str a, .str b => a == b
  | _, _ => false
def eqDs : List D → List D → Bool
  | [], [] => true
  | x :: xs, y :: ys => eqD x y && eqDs xs ys
  | _, _ => false
end
mutual
theorem dat_ok : ∀ {n : Nat} {x : D}, datD n x = true → ∃ p, toP x = some p ∧ p.canLay0 = true ∧ p.depth ≤ n
  | _, .non, _ => ⟨_, rfl, rfl, Nat.zero_le _⟩
  | _, .bl _, _ => ⟨_, rfl, rfl, Nat.zero_le _⟩
  | _, .int _, _ => ⟨_, rfl, rfl, Nat.zero_le _⟩
  | n, .str z, h => ⟨.str (S z), rfl, by
      have h' : okS z = true := by cases n <;> exact h
      show PyData.strOk (S z) = true
      unfold PyData.strOk S
      unfold okS at h'
      rw [List.all_eq_true] at h'
      simp only [List.all_toArray, List.all_eq_true, decide_eq_true_eq]
      intro c hc
      simpa using h' c hc, Nat.zero_le _⟩
  | n + 1, .lst xs, h => by
    obtain ⟨ps, h1, h2, h3⟩ := dats_ok (n := n) (xs := xs) h
    exact ⟨.list ps, by unfold toP; rw [h1]; rfl, by unfold PyData.canLay0; exact h2, by unfold PyData.depth; omega⟩
  | n + 1, .tup xs, h => by
    obtain ⟨ps, h1, h2, h3⟩ := dats_ok (n := n) (xs := xs) h
    exact ⟨.tuple ps, by unfold toP; rw [h1]; rfl, by unfold PyData.canLay0; exact h2, by unfold PyData.depth; omega⟩
  | 0, .lst _, h => by cases h
  | 0, .tup _, h => by cases h
  | 0, .scr _, h => by cases h
  | _ + 1, .scr _, h => by cases h
  | 0, .dct _ _, h => by cases h
  | _ + 1, .dct _ _, h => by cases h
  | 0, .obj _ _ _, h => by cases h
  | _ + 1, .obj _ _ _, h => by cases h
  | 0, .loc _, h => by cases h
  | _ + 1, .loc _, h => by cases h
  | 0, .exc _, h => by cases h
  | _ + 1, .exc _, h => by cases h
  | 0, .cls _, h => by cases h
  | _ + 1, .cls _, h => by cases h
  | 0, .ty _, h => by cases h
  | _ + 1, .ty _, h => by cases h
theorem dats_ok : ∀ {n : Nat} {xs : List D}, datDs n xs = true → ∃ ps, toPs xs = some ps ∧ PyData.canLayAll0 ps = true ∧ PyData.depthAll ps ≤ n
  | _, [], _ => ⟨[], rfl, rfl, Nat.zero_le _⟩
  | n, x :: xs, h => by
    have h' : (datD n x && datDs n xs) = true := h
    rw [Bool.and_eq_true] at h'
    obtain ⟨p, h1, h2, h3⟩ := dat_ok h'.1
    obtain ⟨ps, h4, h5, h6⟩ := dats_ok h'.2
    exact ⟨p :: ps, by unfold toPs; rw [h1, h4], by unfold PyData.canLayAll0; rw [h2, h5]; rfl, by unfold PyData.depthAll; omega⟩
end
theorem S_beq (a b : List Nat) : (S a == S b) = (a == b) := by
  rw [beq_dec, beq_dec]
  exact decide_eq_decide.mpr ⟨fun h => S_inj h, fun h => by rw [h]⟩
theorem flat_l {x y : D} {p q : PyData} (fx : flatD x = true) (hy : ∃ m, datD m y = true) (ep : toP x = some p) (eq : toP y = some q) : PyData.eqv p q = eqD x y := by
  obtain ⟨m, hy⟩ := hy
  cases x <;> first | cases fx | skip
  all_goals
    cases ep
    cases y with
    | lst ys =>
      have e : (toPs ys).map PyData.list = some q := eq
      cases h : toPs ys with
      | none => rw [h] at e; cases e
      | some qs => rw [h] at e; cases e; rfl
    | tup ys =>
      have e : (toPs ys).map PyData.tuple = some q := eq
      cases h : toPs ys with
      | none => rw [h] at e; cases e
      | some qs => rw [h] at e; cases e; rfl
    | non => cases eq; rfl
    | bl _ => cases eq; rfl
    | int _ => cases eq; rfl
    | str _ => first | (cases eq; rfl) | (cases eq; exact S_beq _ _)
    | _ => cases m <;> cases hy
mutual
theorem eqv_ok : ∀ {n m : Nat} {x y : D} {p q : PyData}, datD n x = true → datD m y = true → toP x = some p → toP y = some q → PyData.eqv p q = eqD x y
  | n + 1, m, .lst xs, y, p, q, hx, hy, ep, eq => by
    obtain ⟨ps, h1, _, _⟩ := dats_ok (n := n) (xs := xs) hx
    have e : toP (.lst xs) = some (.list ps) := by unfold toP; rw [h1]; rfl
    rw [e] at ep; cases ep
    cases y with
    | lst ys =>
      cases m with
      | zero => cases hy
      | succ m =>
        obtain ⟨qs, h2, _, _⟩ := dats_ok (n := m) (xs := ys) hy
        have e2 : toP (.lst ys) = some (.list qs) := by unfold toP; rw [h2]; rfl
        rw [e2] at eq; cases eq
        unfold PyData.eqv eqD
        exact eqvs_ok (n := n) (m := m) hx hy h1 h2
    | tup ys =>
      cases m with
      | zero => cases hy
      | succ m =>
        obtain ⟨qs, h2, _, _⟩ := dats_ok (n := m) (xs := ys) hy
        have e2 : toP (.tup ys) = some (.tuple qs) := by unfold toP; rw [h2]; rfl
        rw [e2] at eq; cases eq
        rfl
    | non => cases eq; rfl
    | bl _ => cases eq; rfl
    | int _ => cases eq; rfl
    | str _ => cases eq; rfl
    | _ => cases m <;> cases hy
  | n + 1, m, .tup xs, y, p, q, hx, hy, ep, eq => by
    obtain ⟨ps, h1, _, _⟩ := dats_ok (n := n) (xs := xs) hx
    have e : toP (.tup xs) = some (.tuple ps) := by unfold toP; rw [h1]; rfl
    rw [e] at ep; cases ep
    cases y with
    | tup ys =>
      cases m with
      | zero => cases hy
      | succ m =>
        obtain ⟨qs, h2, _, _⟩ := dats_ok (n := m) (xs := ys) hy
        have e2 : toP (.tup ys) = some (.tuple qs) := by unfold toP; rw [h2]; rfl
        rw [e2] at eq; cases eq
        unfold PyData.eqv eqD
        exact eqvs_ok (n := n) (m := m) hx hy h1 h2
    | lst ys =>
      cases m with
      | zero => cases hy
      | succ m =>
        obtain ⟨qs, h2, _, _⟩ := dats_ok (n := m) (xs := ys) hy
        have e2 : toP (.lst ys) = some (.list qs) := by unfold toP; rw [h2]; rfl
        rw [e2] at eq; cases eq
        rfl
    | non => cases eq; rfl
    | bl _ => cases eq; rfl
    | int _ => cases eq; rfl
    | str _ => cases eq; rfl
    | _ => cases m <;> cases hy
  | 0, _, .lst _, _, _, _, hx, _, _, _ => by cases hx
  | 0, _, .tup _, _, _, _, hx, _, _, _ => by cases hx
  | n, m, .non, y, p, q, hx, hy, ep, eq => by cases ep; exact flat_l rfl ⟨m, hy⟩ rfl eq
  | n, m, .bl _, y, p, q, hx, hy, ep, eq => by cases ep; exact flat_l rfl ⟨m, hy⟩ rfl eq
  | n, m, .int _, y, p, q, hx, hy, ep, eq => by cases ep; exact flat_l rfl ⟨m, hy⟩ rfl eq
  | n, m, .str _, y, p, q, hx, hy, ep, eq => by cases ep; exact flat_l rfl ⟨m, hy⟩ rfl eq
  | n, _, .scr _, _, _, _, hx, _, _, _ => by cases n <;> cases hx
  | n, _, .dct _ _, _, _, _, hx, _, _, _ => by cases n <;> cases hx
  | n, _, .obj _ _ _, _, _, _, hx, _, _, _ => by cases n <;> cases hx
  | n, _, .loc _, _, _, _, hx, _, _, _ => by cases n <;> cases hx
  | n, _, .exc _, _, _, _, hx, _, _, _ => by cases n <;> cases hx
  | n, _, .cls _, _, _, _, hx, _, _, _ => by cases n <;> cases hx
  | n, _, .ty _, _, _, _, hx, _, _, _ => by cases n <;> cases hx
theorem eqvs_ok : ∀ {n m : Nat} {xs ys : List D} {ps qs : List PyData}, datDs n xs = true → datDs m ys = true → toPs xs = some ps → toPs ys = some qs → PyData.eqvAll ps qs = eqDs xs ys
  | _, _, [], ys, ps, qs, _, hy, ep, eq => by
    cases ep
    cases ys with
    | nil => cases eq; rfl
    | cons y ys =>
      unfold toPs at eq
      cases h1 : toP y with
      | none => rw [h1] at eq; cases eq
      | some q =>
        cases h2 : toPs ys with
        | none => rw [h1, h2] at eq; cases eq
        | some qs' => rw [h1, h2] at eq; cases eq; rfl
  | n, m, x :: xs, ys, ps, qs, hx, hy, ep, eq => by
    have hx' : (datD n x && datDs n xs) = true := hx
    rw [Bool.and_eq_true] at hx'
    unfold toPs at ep
    cases h3 : toP x with
    | none => rw [h3] at ep; cases ep
    | some p =>
      cases h4 : toPs xs with
      | none => rw [h3, h4] at ep; cases ep
      | some ps' =>
        rw [h3, h4] at ep; cases ep
        cases ys with
        | nil => cases eq; rfl
        | cons y ys =>
          have hy' : (datD m y && datDs m ys) = true := hy
          rw [Bool.and_eq_true] at hy'
          unfold toPs at eq
          cases h1 : toP y with
          | none => rw [h1] at eq; cases eq
          | some q =>
            cases h2 : toPs ys with
            | none => rw [h1, h2] at eq; cases eq
            | some qs' =>
              rw [h1, h2] at eq; cases eq
              unfold PyData.eqvAll eqDs
              rw [eqv_ok hx'.1 hy'.1 h3 h1, eqvs_ok hx'.2 hy'.2 h4 h2]
end
theorem shaped_of {p : PyData} (h1 : p.canLay0 = true) (h2 : p.depth ≤ 64) : SeqAt.shaped p = true := by
  unfold SeqAt.shaped
  rw [h1, decide_eq_true h2]; rfl
theorem scD_eqD {x y : D} {b : Bool} (h : scD x y = some b) : b = eqD x y := by
  unfold scD at h
  split at h <;> first | (cases h; rfl) | cases h
theorem noLoc {s : Sto} {n : Nat} {x : D} (h : datD n x = true) : toPc s x = toP x := by
  cases x with
  | lst xs => rfl
  | loc k => cases n <;> cases h
  | _ => rfl
theorem oEq_dat {b : Bool} {x y : D} {s : Sto} (hx : datD 64 x = true) (hy : datD 64 y = true) : oEqG b x y s = .ok (.bl (b != eqD x y)) s := by
  unfold oEqG
  cases h : scD x y with
  | some c => dsimp only; rw [scD_eqD h]
  | none =>
    obtain ⟨p, h1, h2, h3⟩ := dat_ok hx
    obtain ⟨q, h4, h5, h6⟩ := dat_ok hy
    rw [noLoc hx, noLoc hy, h1, h4]
    dsimp only
    rw [shaped_of h2 h3, shaped_of h5 h6, eqv_ok hx hy h1 h4]
    rfl
section
variable {b : Bool} {xs ys : List D} {s : Sto} {a : Int} {z : List Nat}
theorem oEq_ll (hx : datDs 63 xs = true) (hy : datDs 63 ys = true) : oEqG b (.lst xs) (.lst ys) s = .ok (.bl (b != eqDs xs ys)) s := by rw [oEq_dat (x := .lst xs) (y := .lst ys) hx hy]; unfold eqD; rfl
theorem oEq_tt (hx : datDs 63 xs = true) (hy : datDs 63 ys = true) : oEqG b (.tup xs) (.tup ys) s = .ok (.bl (b != eqDs xs ys)) s := by rw [oEq_dat (x := .tup xs) (y := .tup ys) hx hy]; unfold eqD; rfl
theorem oEq_loc {n : Nat} {y : D} (h : s[n]? = some (.lst xs)) (hx : datDs 63 xs = true) (hy : datD 64 y = true) : oEqG b (.loc n) y s = .ok (.bl (b != eqD (.lst xs) y)) s := by
  have e : oEqG b (.loc n) y s = oEqG b (.lst xs) y s := by
    unfold oEqG
    have e1 : scD (.loc n) y = none := by cases y <;> rfl
    have e2 : scD (.lst xs) y = none := by cases y <;> rfl
    have e3 : toPc s (.loc n) = toPc s (.lst xs) := by unfold toPc; simp [h]
    rw [e1, e2, e3]
  rw [e, oEq_dat (x := .lst xs) hx hy]
theorem ints_lay : ∀ ns : List Int, PyData.canLayAll0 (ns.map PyData.int) = true ∧ PyData.depthAll (ns.map PyData.int) = 0
  | [] => ⟨rfl, rfl⟩
  | n :: ns => by
    obtain ⟨h1, h2⟩ := ints_lay ns
    rw [List.map_cons]
    exact ⟨by unfold PyData.canLayAll0; rw [h1]; rfl, by unfold PyData.depthAll; rw [h2]; rfl⟩
/-- the script == [] -/
theorem oEq_scr0 {ns : List Int} : oEqG b (.scr ns) (.lst []) s = .ok (.bl (b != ns.isEmpty)) s := by
  unfold oEqG
  obtain ⟨h1, h2⟩ := ints_lay ns
  have e1 : toPc s (.scr ns) = some (.list (ns.map PyData.int)) := rfl
  have e2 : toPc s (.lst []) = some (.list []) := rfl
  have e3 : SeqAt.shaped (.list (ns.map PyData.int)) = true := shaped_of (by unfold PyData.canLay0; exact h1) (by unfold PyData.depth; rw [h2]; decide)
  have e4 : scD (.scr ns) (.lst []) = none := rfl
  rw [e4, e1, e2]
  dsimp only
  rw [e3, show SeqAt.shaped (.list []) = true from shaped_of rfl (by decide)]
  cases ns <;> rfl
@[simp] theorem datDs_nil {n : Nat} : datDs n [] = true := by cases n <;> rfl
@[simp] theorem datDs_cons {n : Nat} {x : D} : datDs n (x :: xs) = (datD n x && datDs n xs) := by cases n <;> rfl
@[simp] theorem datD_non {n : Nat} : datD n .non = true := by cases n <;> rfl
@[simp] theorem datD_bl {n : Nat} {c : Bool} : datD n (.bl c) = true := by cases n <;> rfl
@[simp] theorem datD_int {n : Nat} : datD n (.int a) = true := by cases n <;> rfl
@[simp] theorem datD_str {n : Nat} : datD n (.str z) = okS z := by cases n <;> rfl
@[simp] theorem datD_lst {n : Nat} : datD (n + 1) (.lst xs) = datDs n xs := rfl
@[simp] theorem datD_tup {n : Nat} : datD (n + 1) (.tup xs) = datDs n xs := rfl
@[simp] theorem eqDs_nil : eqDs [] [] = true := rfl
@[simp] theorem eqDs_cn {x : D} : eqDs (x :: xs) [] = false := rfl
@[simp] theorem eqDs_nc {x : D} : eqDs [] (x :: xs) = false := rfl
@[simp] theorem eqDs_cc {x y : D} : eqDs (x :: xs) (y :: ys) = (eqD x y && eqDs xs ys) := rfl
@[simp] theorem eqD_int {c : Int} : eqD (.int a) (.int c) = (a == c) := rfl
@[simp] theorem eqD_str {y : List Nat} : eqD (.str z) (.str y) = (z == y) := rfl
@[simp] theorem eqD_bl {c d : Bool} : eqD (.bl c) (.bl d) = (c == d) := rfl
@[simp] theorem eqD_ll : eqD (.lst xs) (.lst ys) = eqDs xs ys := by unfold eqD; rfl
@[simp] theorem eqD_tt : eqD (.tup xs) (.tup ys) = eqDs xs ys := by unfold eqD; rfl
@[simp] theorem eqD_il : eqD (.int a) (.lst ys) = false := rfl
@[simp] theorem eqD_sl : eqD (.str z) (.lst ys) = false := rfl
@[simp] theorem eqD_nl : eqD .non (.lst ys) = false := rfl
@[simp] theorem eqD_li : eqD (.lst xs) (.int a) = false := rfl
@[simp] theorem eqD_ls : eqD (.lst xs) (.str z) = false := rfl
@[simp] theorem eqD_it : eqD (.int a) (.tup ys) = false := rfl
@[simp] theorem eqD_st : eqD (.str z) (.tup ys) = false := rfl
@[simp] theorem eqD_ti : eqD (.tup xs) (.int a) = false := rfl
@[simp] theorem eqD_ts : eqD (.tup xs) (.str z) = false := rfl
@[simp] theorem eqD_lt : eqD (.lst xs) (.tup ys) = false := rfl
@[simp] theorem eqD_tl : eqD (.tup xs) (.lst ys) = false := rfl
end
/-! ## texts: where one sign stands -/
theorem sub1 {t : List Nat} {c i : Nat} : Builtin.Str.subAt (S t) (S [c]) i = decide (t[i]? = some c) := by
  unfold Builtin.Str.subAt
  have e : (S t).cps.extract i (i + (S [c]).length) = ((t.drop i).take 1).toArray := by
    rw [S_len]
    simp [S, List.extract_toArray, List.extract_eq_take_drop]
  rw [e]
  by_cases h : i < t.length
  · rw [List.drop_eq_getElem_cons h, List.take_succ_cons, List.take_zero, List.getElem?_eq_getElem h]
    by_cases h2 : t[i] = c <;> simp [h2, S]
  · rw [List.drop_eq_nil_of_le (by omega), List.getElem?_eq_none (by omega)]
    simp [S]
theorem at1 {t : List Nat} {c i : Nat} : StrLaws.At (S t) (S [c]) (S t).length i ↔ t[i]? = some c := by
  unfold StrLaws.At
  rw [sub1, S_len, S_len]
  constructor
  · rintro ⟨_, h⟩
    simpa using h
  · intro h
    have := (List.getElem?_eq_some_iff.mp h).1
    exact ⟨this, by simpa using h⟩
theorem occ1 {p q : List Nat} {c : Nat} (h : c ∉ p) : ∃ r, Builtin.Str.occurrences (S (p ++ c :: q)) (S [c]) 0 (S (p ++ c :: q)).length 1 = p.length :: r := by
  rcases StrLaws.occ_head (S (p ++ c :: q)) (S [c]) 1 (Nat.le_refl _) with ⟨_, hn⟩ | ⟨i, r, e, ha, hn⟩
  · exact absurd (at1.mpr (by simp)) (hn p.length)
  · refine ⟨r, ?_⟩
    rw [e]
    congr 1
    have h1 := at1.mp ha
    rcases Nat.lt_trichotomy i p.length with hl | he | hg
    · rw [List.getElem?_append_left hl] at h1
      exact absurd (List.mem_of_getElem? h1) h
    · exact he
    · exact absurd (at1.mpr (by simp)) (hn p.length hg)
theorem occ0 {p : List Nat} {c : Nat} (h : c ∉ p) : Builtin.Str.occurrences (S p) (S [c]) 0 (S p).length 1 = [] := by
  rcases StrLaws.occ_head (S p) (S [c]) 1 (Nat.le_refl _) with ⟨e, hn⟩ | ⟨i, r, e, ha, hn⟩
  · exact e
  · exact absurd (List.mem_of_getElem? (at1.mp ha)) h
theorem find1 {p q : List Nat} {c : Nat} (h : c ∉ p) : Txt.find (S (p ++ c :: q)) (S [c]) = p.length := by
  obtain ⟨r, e⟩ := occ1 (q := q) h
  unfold Txt.find
  rw [e]
theorem find0 {p : List Nat} {c : Nat} (h : c ∉ p) : Txt.find (S p) (S [c]) = -1 := by
  unfold Txt.find
  rw [occ0 h]
theorem starts1 {a c : Nat} {r : List Nat} : Txt.startswith (S (a :: r)) (S [c]) = (a == c) := by
  unfold Txt.startswith
  rw [sub1, S_len, S_len]
  by_cases h : a = c <;> simp [h]
theorem starts0 {c : Nat} : Txt.startswith (S []) (S [c]) = false := by
  unfold Txt.startswith
  rw [S_len, S_len]
  rfl
theorem sIx_nat {n d i : Nat} (h : i ≤ n) : HT.sIx n d (some (i : Int)) = i := by
  rw [HT.sIx_nat]; omega
theorem cutL_to {α : Type} {a b : List α} {i : Int} (h : i = (a.length : Int)) : cutL (a ++ b) none (some i) = a := by
  subst h
  unfold cutL
  rw [sIx_nat (by simp)]
  simp [HT.sIx]
theorem cutL_from {α : Type} {a b : List α} {i : Int} (h : i = (a.length : Int)) : cutL (a ++ b) (some i) none = b := by
  subst h
  unfold cutL
  rw [sIx_nat (by simp)]
  simp [HT.sIx]
end Mp
/-! # MpU -/
namespace Mp
open PySem PySem.Spec L2
/-! ## rows for objects, built-ins more -/
section
variable {δ : Env} {s : Sto}
@[simp] theorem obOf_obj {c : Nat} {ns : List Nat} {vs : List D} : obOf s (.obj c ns vs) = some (c, ns, vs) := rfl
@[simp] theorem obOf_loc {n : Nat} : obOf s (.loc n) = match s[n]? with
    | some (.obj c ns vs) => some (c, ns, vs)
    | _ => none := rfl
@[simp] theorem dFld_eq {cs : List Nat} {nF i : Nat} {f : DE} : dFld cs nF i f δ s = (f δ s).bind fun x s1 => match obOf s1 x with
  | some (c, ns, vs) => if (decide (c ∈ cs) && okN nF ns) = true then match lkF i ns vs with
    | some d => .ok d s1
    | none => .stuck
    else .stuck
  | none => .stuck := rfl
theorem dMeth_eq {nF : Nat} {tbl : List (Nat × (List D → Sto → Res D))} {f : DE} {fa : DA} : dMeth nF tbl f fa δ s = (f δ s).bind fun x s1 => match obOf s1 x with
  | some (c, ns, _) => if okN nF ns = true then match tbl.lookup c with
    | some φ => (fa δ s1).bind fun ds s2 => φ (x :: ds) s2
    | none => .stuck
    else .stuck
  | none => .stuck := rfl
@[simp] theorem sFldS_eq {cs : List Nat} {nF i : Nat} {fv fo : DE} : sFldS cs nF i fv fo δ s = (fv δ s).out δ fun d s1 => (fo δ s1).out δ fun o s2 => match o with
  | .loc n => match s2[n]? with
    | some (.obj c ns vs) => if (decide (c ∈ cs) && (okN nF ns && decide (ns.length < 1000))) = true then .nx δ (s2.set n (.obj c (putN i ns) (putD i d ns vs))) else .stuck
    | _ => .stuck
  | _ => .stuck := rfl
@[simp] theorem okN_nil {n : Nat} : okN n [] = true := rfl
@[simp] theorem okN_cons {n m : Nat} {ns : List Nat} : okN n (m :: ns) = (decide (m < n) && okN n ns) := rfl
@[simp] theorem lkF_cons {i n : Nat} {ns : List Nat} {v : D} {vs : List D} : lkF i (n :: ns) (v :: vs) = if n = i then some v else lkF i ns vs := rfl
@[simp] theorem lkF_nil {i : Nat} {vs : List D} : lkF i [] vs = none := by cases vs <;> rfl
@[simp] theorem putN_nil {i : Nat} : putN i [] = [i] := rfl
@[simp] theorem putN_cons {i n : Nat} {ns : List Nat} : putN i (n :: ns) = if n = i then n :: ns else n :: putN i ns := rfl
@[simp] theorem putD_nil {i : Nat} {d : D} : putD i d [] [] = [d] := rfl
@[simp] theorem putD_cons {i n : Nat} {ns : List Nat} {d v : D} {vs : List D} : putD i d (n :: ns) (v :: vs) = if n = i then d :: vs else v :: putD i d ns vs := rfl
@[simp] theorem lst_set {c d : Cell} : (s ++ [c]).set s.length d = s ++ [d] := by simp
@[simp] theorem lst_get {c : Cell} : (s ++ [c])[s.length]? = some c := by simp
theorem below_ints {n : Nat} : ∀ xs : List Int, belows n (xs.map D.int) = true
  | [] => rfl
  | x :: xs => by rw [List.map_cons]; unfold belows; rw [below_ints xs]; rfl
theorem below_strs {n : Nat} : ∀ xs : List (List Nat), belows n (xs.map D.str) = true
  | [] => rfl
  | x :: xs => by rw [List.map_cons]; unfold belows; rw [below_strs xs]; rfl
theorem mkOF_ok {c : Nat} {φ : List D → Sto → Res D} {ds : List D} {ns : List Nat} {vs : List D} (h : φ (.loc s.length :: ds) (s ++ [.obj c [] []]) = .ok .non (s ++ [.obj c ns vs])) (hs : s.all (Cell.below s.length) = true) (hv : belows s.length vs = true) : mkOF c φ ds s = .ok (.obj c ns vs) s := by
  unfold mkOF mkO
  rw [h]
  unfold frzO
  dsimp only
  rw [lst_get]
  dsimp only
  have e : (s ++ [Cell.obj c ns vs]).take s.length = s := by simp
  rw [if_pos (by rw [e]; simp only [Bool.and_eq_true, decide_eq_true_eq]; exact ⟨trivial, by simp, hv, hs⟩), e]
theorem mkOF_ex {c k : Nat} {φ : List D → Sto → Res D} {ds : List D} {cl : Cell} (h : φ (.loc s.length :: ds) (s ++ [.obj c [] []]) = .exc k (s ++ [cl])) (hs : s.all (Cell.below s.length) = true) : mkOF c φ ds s = .exc k s := by
  unfold mkOF mkO
  rw [h]
  show cutX s.length k (s ++ [cl]) = _
  unfold cutX
  have e : (s ++ [cl]).take s.length = s := by simp
  rw [if_neg (by simp), if_pos (by rw [e]; simp only [Bool.and_eq_true, decide_eq_true_eq]; exact ⟨by simp, hs⟩), e]
@[simp] theorem dFrz_eq {f : DE} : dFrz f δ s = frzL s.length (f δ s) := rfl
theorem frzL_ok {xs : List D} (hs : s.all (Cell.below s.length) = true) (hv : belows s.length xs = true) : frzL s.length (.ok (.loc s.length) (s ++ [.lst xs])) = .ok (.lst xs) s := by
  unfold frzL
  dsimp only
  rw [lst_get]
  dsimp only
  have e : (s ++ [Cell.lst xs]).take s.length = s := by simp
  rw [if_pos (by rw [e]; simp only [Bool.and_eq_true, decide_eq_true_eq]; exact ⟨trivial, by simp, hv, hs⟩), e]
@[simp] theorem oAddC_lst {a b : List D} : oAddC (.lst a) (.lst b) s = if a.length + b.length ≤ lim then .ok (.loc s.length) (s ++ [.lst (a ++ b)]) else .stuck := rfl
@[simp] theorem intsOf_nil : intsOf [] = some [] := rfl
@[simp] theorem intsOf_int {x : Int} {r : List D} : intsOf (.int x :: r) = (intsOf r).map (x :: ·) := rfl
theorem intsOf_map : ∀ xs : List Int, intsOf (xs.map D.int) = some xs
  | [] => rfl
  | x :: xs => by rw [List.map_cons, intsOf_int, intsOf_map xs]; rfl
@[simp] theorem bSum_lst {xs : List D} : bSum [.lst xs] s = match intsOf xs with
    | some ns => .ok (.int ns.sum) s
    | none => .stuck := rfl
@[simp] theorem bMaxL_lst {xs : List D} : bMaxL [.lst xs] s = match intsOf xs with
    | some ns => if ns ≠ [] then .ok (.int (maxI ns)) s else .stuck
    | none => .stuck := rfl
@[simp] theorem dMaxD_eq {fa fz : DA} : dMaxD fa fz δ s = (fa δ s).bind fun ds s1 => (fz δ s1).bind fun zs s2 => bMaxD ds zs s2 := rfl
@[simp] theorem bMaxD_lst {xs : List D} {d : Int} : bMaxD [.lst xs] [.int d] s = match intsOf xs with
    | some ns => .ok (.int (if ns = [] then d else maxI ns)) s
    | none => .stuck := rfl
@[simp] theorem bList_lst {xs : List D} : bList [.lst xs] s = .ok (.lst xs) s := rfl
@[simp] theorem bList_tup {xs : List D} : bList [.tup xs] s = .ok (.lst xs) s := rfl
@[simp] theorem bList_loc {n : Nat} : bList [.loc n] s = match s[n]? with
    | some (.lst xs) => .ok (.lst xs) s
    | _ => .stuck := by
  unfold bList
  simp only [lqOf_loc]
  cases s[n]? with
  | none => rfl
  | some c => cases c <;> rfl
@[simp] theorem dSortedSet_eq {f : DE} : dSortedSet f δ s = (f δ s).bind fun x s1 => match lqOf s1 x with
  | some xs => match intsOf xs with
    | some ns => if ns.length < 63 then .ok (.lst ((sortI ns).map D.int)) s1 else .stuck
    | none => .stuck
  | none => .stuck := rfl
@[simp] theorem dLcA_eq {f : DE} {t : DTg} {c : DT} {e : DE} {vs : List Nat} : dLcA f t c e vs δ s = (f δ s).bind fun x s1 => match itCel x s1 with
  | some (ds, s2, h) => backO h (lcL t c e (wipeE δ vs) ds [] s2)
  | none => .stuck := rfl
@[simp] theorem itCel_lst {xs : List D} : itCel (.lst xs) s = some (xs, s, none) := rfl
@[simp] theorem itCel_tup {xs : List D} : itCel (.tup xs) s = some (xs, s, none) := rfl
@[simp] theorem itCel_loc {n : Nat} : itCel (.loc n) s = match s[n]? with
    | some (.lst xs) => some (xs, s.set n .dead, some (n, xs))
    | _ => none := rfl
@[simp] theorem backO_none {r : Res D} : backO none r = r := rfl
@[simp] theorem backO_some {n : Nat} {xs : List D} {r : Res D} : backO (some (n, xs)) r = r.back n xs := rfl
@[simp] theorem dListR_eq {f : DE} : dListR f δ s = (f δ s).bind fun x s1 => match x with
  | .int n => if 0 ≤ n ∧ n ≤ 1000 then .ok (.lst (intsD 0 n.toNat)) s1 else .stuck
  | _ => .stuck := rfl
@[simp] theorem mClear_loc {n : Nat} : mClear (.loc n) [] s = match s[n]? with
    | some (.lst _) => .ok .non (s.set n (.lst []))
    | _ => .stuck := rfl
/-! ### isinstance -/
section
variable {parT par cs : List Nat}
theorem iso_cls {x : D} {c d : Nat} {ns : List Nat} {vs : List D} (hd : d ∈ cs) (hx : obOf s x = some (c, ns, vs)) (hc : c ∈ cs) (he : ∀ k, x ≠ .exc k) : bIsO parT par cs [x, .cls d] s = .ok (.bl (ancF par par.length c d)) s := by
  unfold bIsO
  split
  · rename_i k _ h
    cases h
    exact absurd rfl (he k)
  · rename_i h
    cases h
    rw [if_pos hd, hx]
    exact if_pos hc
  · rename_i h1 h2
    exact absurd rfl (h2 _ _)
theorem iso_no {x : D} {d : Nat} {t : String} (hd : d ∈ cs) (hx : obOf s x = none) (ht : tyOf s x = some t) (hk : t ∈ kiTy) : bIsO parT par cs [x, .cls d] s = .ok (.bl false) s := by
  unfold bIsO
  split
  · rename_i h
    cases h
    cases ht
  · rename_i h
    cases h
    rw [if_pos hd, hx]
    dsimp only
    rw [ht]
    exact if_pos hk
  · rename_i h1 h2
    exact absurd rfl (h2 _ _)
theorem iso_ty {x : D} {n t : String} {b : Bool} (ht : tyOf s x = some t) (hk : kitB t n = some b) : bIsO parT par cs [x, .ty n] s = .ok (.bl b) s := by
  unfold bIsO
  split
  · rename_i h
    cases h
    cases ht
  · rename_i h
    cases h
  · unfold bIsA
    split
    · rename_i h; cases h
    · rename_i h; cases h; cases ht
    · rename_i h
      cases h
      rw [ht]
      dsimp only
      rw [hk]
    · rename_i h1 h2 h3
      exact absurd rfl (h3 _ _)
theorem iso_x {k : Nat} {c : D} : bIsO parT par cs [.exc k, c] s = bIsA parT [.exc k, c] s := rfl
end
theorem kit_ii : kitB "int" "int" = some true := by decide +kernel
theorem kit_ib : kitB "int" "bool" = some false := by decide +kernel
theorem kit_bb : kitB "bool" "bool" = some true := by decide +kernel
theorem kit_bi : kitB "bool" "int" = some true := by decide +kernel
theorem kit_ll : kitB "list" "list" = some true := by decide +kernel
theorem kit_si : kitB "str" "int" = some false := by decide +kernel
theorem kit_ni : kitB "NoneType" "int" = some false := by decide +kernel
theorem kit_li : kitB "list" "int" = some false := by decide +kernel
theorem kit_ti : kitB "tuple" "int" = some false := by decide +kernel
theorem kit_di : kitB "dict" "int" = some false := by decide +kernel
theorem kit_tl : kitB "tuple" "list" = some false := by decide +kernel
theorem kit_nl : kitB "NoneType" "list" = some false := by decide +kernel
theorem kit_sl : kitB "str" "list" = some false := by decide +kernel
theorem kit_il : kitB "int" "list" = some false := by decide +kernel
theorem kit_bl : kitB "bool" "list" = some false := by decide +kernel
theorem kit_dl : kitB "dict" "list" = some false := by decide +kernel
theorem kit_ss : kitB "str" "str" = some true := by decide +kernel
theorem kit_ns : kitB "NoneType" "str" = some false := by decide +kernel
theorem kit_is : kitB "int" "str" = some false := by decide +kernel
theorem kit_bs : kitB "bool" "str" = some false := by decide +kernel
theorem kit_ls : kitB "list" "str" = some false := by decide +kernel
theorem kit_ts : kitB "tuple" "str" = some false := by decide +kernel
theorem kit_ds : kitB "dict" "str" = some false := by decide +kernel
@[simp] theorem tyOf_non : tyOf s .non = some "NoneType" := rfl
@[simp] theorem tyOf_bl {b : Bool} : tyOf s (.bl b) = some "bool" := rfl
@[simp] theorem tyOf_int {b : Int} : tyOf s (.int b) = some "int" := rfl
@[simp] theorem tyOf_str {b : List Nat} : tyOf s (.str b) = some "str" := rfl
@[simp] theorem tyOf_lst {b : List D} : tyOf s (.lst b) = some "list" := rfl
@[simp] theorem tyOf_tup {b : List D} : tyOf s (.tup b) = some "tuple" := rfl
@[simp] theorem tyOf_dct {ks b : List D} : tyOf s (.dct ks b) = some "dict" := rfl
/-! ### membership, menus -/
theorem any_int {x : Int} : ∀ xs : List Int, ((xs.map D.int).any fun y => eqF y (.int x)) = decide (x ∈ xs)
  | [] => by simp
  | y :: ys => by
    rw [List.map_cons, List.any_cons, any_int ys]
    show ((y == x) || _) = _
    by_cases h : y = x
    · simp [h]
    · have : ¬ x = y := fun z => h z.symm
      simp [h, this]
theorem flat_ints : ∀ xs : List Int, (xs.map D.int).all flatD = true
  | [] => rfl
  | x :: xs => by rw [List.map_cons, List.all_cons, flat_ints xs]; rfl
@[simp high] theorem oIn_ints {neg : Bool} {x : Int} {xs : List Int} : oInA neg (.int x) (.lst (xs.map D.int)) s = .ok (.bl (neg != decide (x ∈ xs))) s := by
  rw [oInA_lst, if_pos (by rw [flat_ints]; rfl), any_int]
theorem strsOf_map : ∀ xs : List (List Nat), strsOf (xs.map D.str) = some xs
  | [] => rfl
  | x :: xs => by
    show (strsOf (xs.map D.str)).map (x :: ·) = _
    rw [strsOf_map xs]; rfl
theorem un_S (x : List Nat) : un (S x) = x := by simp [un, S]
theorem mJoin_ok {a : List Nat} {ys : List (List Nat)} (h : (ys.map List.length).sum + ys.length * a.length ≤ lim) : mJoin (.str a) [.lst (ys.map D.str)] s = .ok (.str (TL.joinL a ys)) s := by
  unfold mJoin
  simp only [lqOf_lst, Option.some_or, strsOf_map]
  rw [if_pos h]
  have e : Txt.join (S a) (ys.map S) = S (TL.joinL a ys) := SX.join_S a ys
  rw [e, un_S]
theorem eqDs_self : ∀ ws : List (List Nat), eqDs (ws.map D.str) (ws.map D.str) = true
  | [] => rfl
  | w :: ws => by rw [List.map_cons, eqDs_cc, eqDs_self ws, eqD_str]; simp
theorem datDs_strs {n : Nat} : ∀ {ws : List (List Nat)}, (∀ w ∈ ws, okS w = true) → datDs n (ws.map D.str) = true
  | [], _ => by simp
  | w :: ws, h => by
    rw [List.map_cons, datDs_cons, datDs_strs fun v hv => h v (List.mem_cons_of_mem _ hv), datD_str, h w List.mem_cons_self]
    rfl
theorem datDs_ints {n : Nat} : ∀ xs : List Int, datDs n (xs.map D.int) = true
  | [] => by simp
  | x :: xs => by rw [List.map_cons, datDs_cons, datDs_ints xs, datD_int]; rfl
theorem eqDs_ints : ∀ xs ys : List Int, eqDs (xs.map D.int) (ys.map D.int) = (xs == ys)
  | [], [] => rfl
  | [], y :: ys => rfl
  | x :: xs, [] => rfl
  | x :: xs, y :: ys => by rw [List.map_cons, List.map_cons, eqDs_cc, eqDs_ints xs ys, eqD_int]; rfl
theorem bAll_true {xs : List D} (h : ∀ x ∈ xs, x = .bl true) : bAll [.lst xs] s = .ok (.bl true) s := by
  have e : boolsOf xs = some (xs.map fun _ => true) := by
    induction xs with
    | nil => rfl
    | cons x xs ih =>
      rw [h x List.mem_cons_self]
      show (boolsOf xs).map (true :: ·) = _
      rw [ih fun y hy => h y (List.mem_cons_of_mem _ hy)]
      rfl
  unfold bAll bAnyAll
  simp only [lqOf_lst, e]
  simp
end
end Mp
/-! # MpV -/
namespace PySem.SeqAt
open AutoSeq1 (wpAny_loadPart')
open MeetsSeq MeetsSeq2 MeetsSeq3 SeqRoads2
section
variable {prog : Program} {w : World}
theorem mp_list_neIn (l b : Addr) (items items2 : Array Value) (n n2 : Nat) (dd dd2 : Option Addr) (sl sl2 : Array (Option Value)) (hsz : items.size ≠ items2.size) :
    MeetsIn prog w (Builtin.«list.__eq__» ⟨[.ref l, .ref b], []⟩)
      (fun A R s => s.heap.get? l = some { cls := .type "list", dict := dd, data := .seq items n, slots := sl } ∧ s.heap.get? b = some { cls := .type "list", dict := dd2, data := .seq items2 n2, slots := sl2 } ∧
        R (.ok (.ret (.bool false))) s) := by
  intro A R s h
  obtain ⟨hp, g, d, tk, os⟩ := s; obtain ⟨hl, hb, h⟩ := h
  have f3 := AutoSeq1.sub_list_list
  have hne : (items.size != items2.size) = true := by simpa using hsz
  wp_walk using wpAny_loadPart' hl, wpAny_loadPart' hb
  exact h
theorem mp_rc_ne {A : Around} {s : Shared} {l b : Addr} {items items2 : Array Value} (hl : s.heap.IsList l items) (hb : s.heap.IsList b items2) (hsz : items.size ≠ items2.size) (hu : A.units < cLine)
    (E Q : Value → Shared → Prop) (h : Q (.bool false) s) : wpAny (model prog w) A (richCompare .Eq (.ref l) (.ref b)) Q E s := by
  obtain ⟨⟨cls, dd, data, sl⟩, ho, hc, n, hd⟩ := id hl
  obtain ⟨⟨cls2, dd2, data2, sl2⟩, ho2, hc2, n2, hd2⟩ := id hb
  simp only at hc hd hc2 hd2
  subst hc hd hc2 hd2
  have ta : s.TypeIs (.ref l) "list" := ⟨_, ho, rfl⟩
  have tb : s.TypeIs (.ref b) "list" := ⟨_, ho2, rfl⟩
  exact wpAny_richCompare_same_room (op := .Eq) ta tb F.slot_list_eq (call_meetsIn F.slot_list_eq ta F.entry_list_eq (F.args_list_eq_2 _ _) (mp_list_neIn l b items items2 n n2 dd dd2 sl sl2 hsz)
    ⟨ho, ho2, show Value.bool false ≠ Value.notImplemented ∧ Q (.bool false) s from ⟨(fun x => nomatch x), h⟩⟩) hu
theorem mp_dict_int (l : Addr) (o : Obj) (hc : o.cls = .type "dict") (b : Int) (u : Tok) :
    Meets (Builtin.«dict.__eq__» ⟨[.ref l, .int b u], []⟩) (fun _ R s => s.heap.get? l = some o ∧ R (.ok (.ret .notImplemented)) s) :=
  .of_wp fun prog w A R s h => by
    obtain ⟨hp, g, d, tk, os⟩ := s; obtain ⟨hl, h⟩ := h
    have f1 := F.sub_int_dict
    obtain ⟨oc, od, odt, osl⟩ := o
    simp only at hc
    subst hc
    wp_walk using wpAny_loadPart' hl
    exact ⟨_, rfl, h⟩
theorem mp_int_dict (l : Addr) (od : Option Addr) (es : Array DictEntry) (ep : Nat) (osl : Array (Option Value)) (b : Int) (u : Tok) :
    Meets (Builtin.«int.__eq__» ⟨[.int b u, .ref l], []⟩) (fun _ R s => s.heap.get? l = some ⟨.type "dict", od, .dict es ep, osl⟩ ∧ R (.ok (.ret .notImplemented)) s) :=
  .of_wp fun prog w A R s h => by
    obtain ⟨hp, g, d, tk, os⟩ := s; obtain ⟨hl, h⟩ := h
    wp_walk using wpAny_loadPart' hl, wpAny_load hl
    exact ⟨_, rfl, h⟩
theorem mp_eq_di {A : Around} {s : Shared} {l : Addr} {o : Obj} (b : Int) (u : Tok) {es : Array DictEntry} {ep : Nat} (ho : s.heap.get? l = some o) (hc : o.cls = .type "dict") (hd : o.data = .dict es ep) (hu : A.units < cLine) : EqAt A s (.ref l) (.int b u) false := fun prog w E Q h => by
  obtain ⟨oc, od, odt, osl⟩ := o
  simp only at hc hd
  subst hc hd
  unfold eqBool
  refine wpAny_holding ?_
  refine wpAny_ite_split (fun hab => absurd (eq_of_beq hab) nofun) (fun _ => ?_)
  refine wpAny_bind (rc_eq_decline_or (k := false) ⟨_, ho, rfl⟩ (typeIs_int s b u) (by decide) F.sub_int_dict F.slot_dict_eq F.slot_int_eq_refl
    (fun _ hq => call_meets F.slot_dict_eq ⟨_, ho, rfl⟩ F.entry_dict_eq (F.args_dict_eq_2 _ _) (mp_dict_int l _ rfl b u) ⟨ho, hq⟩)
    (fun _ hq => call_meets F.slot_int_eq_refl (typeIs_int s b u) F.entry_int_eq (F.args_int_eq_2 _ _) (mp_int_dict l od es ep osl b u) ⟨ho, hq⟩)
    (fun _ hq => wpAny_of_eq (rfl : isSame (.ref l) (.int b u) = pure false) hq) (.inr hu) (wpAny_truthy_bool h))
end
end PySem.SeqAt
namespace Mp
open PySem PySem.Spec PyProof.Rows L2
/-! ## == of lists, empty dicts and whole numbers among -/
/-- an item of the one list and its like of the other -/
def ElX (K : PySem.W.Frag) (H : Hp) (x y : V) (b : Bool) : Prop := (∃ i j, x = .int i ∧ y = .int j ∧ b = (i == j)) ∨ (∃ d kvs j, x = .ref d ∧ Rd H d (.dK kvs) ∧ y = .int j ∧ b = false)
inductive ElsX (K : PySem.W.Frag) (H : Hp) : List V → List V → List Bool → Prop
  | nil : ElsX K H [] [] []
  | cons {x y : V} {b : Bool} {xs ys : List V} {bs : List Bool} (h : ElX K H x y b) (r : ElsX K H xs ys bs) : ElsX K H (x :: xs) (y :: ys) (b :: bs)
def rEqX (K : PySem.W.Frag) (neg : Bool) : R2 := fun x y H Q => ∃ l b xs ys, x = .ref l ∧ y = .ref b ∧ SqL K H l xs ∧ SqL K H b ys ∧
  ((xs.length ≠ ys.length ∧ Q (.bl neg) H) ∨ ∃ bs, ElsX K H xs ys bs ∧ Q (.bl (neg != bs.all id)) H)
section
variable {X : Cx} {pins : List (Addr × Obj)} {σ : L2.St} {H : Hp} {s : Shared}
theorem ElsX.at {K : PySem.W.Frag} : ∀ {xs ys : List V} {bs : List Bool}, ElsX K H xs ys bs → ∀ j, j < xs.length → ∃ x y b, xs[j]? = some x ∧ ys[j]? = some y ∧ bs[j]? = some b ∧ ElX K H x y b
  | _, _, _, .nil, j, hj => by simp at hj
  | _, _, _, .cons h r, 0, _ => ⟨_, _, _, rfl, rfl, rfl, h⟩
  | _, _, _, .cons h r, j + 1, hj => by
    obtain ⟨x, y, b, h1, h2, h3, h4⟩ := r.at j (by simpa using hj)
    exact ⟨x, y, b, by simpa using h1, by simpa using h2, by simpa using h3, h4⟩
theorem ElsX.len {K : PySem.W.Frag} : ∀ {xs ys : List V} {bs : List Bool}, ElsX K H xs ys bs → xs.length = ys.length ∧ bs.length = xs.length
  | _, _, _, .nil => ⟨rfl, rfl⟩
  | _, _, _, .cons h r => by simp [r.len.1, r.len.2]
theorem all_range {bs : List Bool} : (List.range bs.length).all (fun j => bs.getD j true) = bs.all id := by
  rw [Bool.eq_iff_iff, List.all_eq_true, List.all_eq_true]
  constructor
  · intro h b hb
    obtain ⟨j, hj, e⟩ := List.getElem_of_mem hb
    have := h j (List.mem_range.mpr hj)
    rw [List.getD_eq_getElem?_getD, List.getElem?_eq_getElem hj, e] at this
    exact this
  · intro h j hj
    have hj' := List.mem_range.mp hj
    rw [List.getD_eq_getElem?_getD, List.getElem?_eq_getElem hj']
    exact h _ (List.getElem_mem hj')
theorem op_eqX (hu : X.A.units + 64 < cLine) : OpR X (compareOp .Eq) (rEqX X.K false) := by
  intro pins s σ H x y v u Q I rx ry h
  obtain ⟨l, b, xs, ys, rfl, rfl, hx, hy, h⟩ := h
  cases (show v = Value.ref l from rx)
  cases (show u = Value.ref b from ry)
  obtain ⟨its, r1, p1, z1⟩ := I.list hx
  obtain ⟨jts, r2, p2, z2⟩ := I.list hy
  show wpAny _ _ (richCompare .Eq (.ref l) (.ref b)) _ _ _
  rcases h with ⟨hne, q⟩ | ⟨bs, hE, q⟩
  · exact SeqAt.mp_rc_ne p1.isList p2.isList (by simp; rw [← r1.length, ← r2.length]; exact hne) (by omega) _ _ ⟨.bl false, H, I, rfl, q⟩
  · obtain ⟨e1, e2⟩ := hE.len
    refine SeqAt.rcP_lists (e := fun j => bs.getD j true) p1.isList p2.isList (by simp; rw [← r1.length, ← r2.length]; exact e1) (by omega) (fun j h1 h2 => ?_) _ _ ?_
    · have hj : j < xs.length := by rw [r1.length]; simpa using h1
      obtain ⟨a, c, k, q1, q2, q3, q4⟩ := hE.at j hj
      obtain ⟨v1, w1, rv1⟩ := r1.get q1
      obtain ⟨v2, w2, rv2⟩ := r2.get q2
      have f1 : its.toArray[j] = v1 := by
        rw [List.getElem?_eq_some_iff] at w1
        obtain ⟨_, w1⟩ := w1
        simpa using w1
      have f2 : jts.toArray[j] = v2 := by
        rw [List.getElem?_eq_some_iff] at w2
        obtain ⟨_, w2⟩ := w2
        simpa using w2
      rw [f1, f2]
      have f3 : bs.getD j true = k := by rw [List.getD_eq_getElem?_getD, q3]; rfl
      rw [f3]
      rcases q4 with ⟨i, i2, rfl, rfl, rfl⟩ | ⟨d, kvs, i2, rfl, hd, rfl, rfl⟩
      · obtain ⟨t, rfl⟩ := rv1
        obtain ⟨t2, rfl⟩ := rv2
        exact (SeqAt.EqAt.int_int i t i2 t2).eqP
      · cases (show v1 = Value.ref d from rv1)
        obtain ⟨t2, rfl⟩ := rv2
        obtain ⟨_, _, vs, _, o, es, ep, g1, g2, g3, _⟩ := dk_rd I.hok hd
        exact (SeqAt.mp_eq_di i2 t2 g1 g2.1 g3 (by show X.A.units + 1 < cLine; omega)).eqP
    · have e3 : its.toArray.size = bs.length := by simp; rw [← r1.length]; exact e2.symm
      rw [e3, all_range]
      exact ⟨.bl _, H, I, rfl, by simpa using q⟩
end
def elX : D → D → Option Bool
  | .int a, .int b => some (a == b)
  | .dct _ _, .int _ => some false
  | _, _ => none
def elsX : List D → List D → Option (List Bool)
  | [], [] => some []
  | x :: xs, y :: ys => match elX x y, elsX xs ys with
    | some b, some bs => some (b :: bs)
    | _, _ => none
  | _, _ => none
def oEqX : DOp := fun x y s => match lqOf s x, lqOf s y with
  | some xs, some ys => if xs.length ≠ ys.length then .ok (.bl false) s else match elsX xs ys with
    | some bs => .ok (.bl (bs.all id)) s
    | none => .stuck
  | _, _ => .stuck
def oEqB : DOp := fun x y s => match oEqG false x y s with
  | .stuck => oEqX x y s
  | r => r
def rEqB (K : PySem.W.Frag) : R2 := orR (rEqA K) (rEqX K false)
theorem op_eqB {X : Cx} (hu : X.A.units + 64 < cLine) : OpR X (compareOp .Eq) (rEqB X.K) := OpR.or (op_eqA hu) (op_eqX hu)
section
variable {T : Tb}
theorem elX_ok {P : Hp} {ι : List Addr} {F : Hp} {s : Sto} {H : Hp} (R : RelH T P ι F s H) {x y : D} {v u : V} {b : Bool} (rx : Rp T F ι x v) (ry : Rp T F ι y u) (h : elX x y = some b) : ElX T.K H v u b := by
  unfold elX at h
  split at h
  · cases h
    unfold Rp at rx ry
    exact .inl ⟨_, _, rx, ry, rfl⟩
  · cases h
    unfold Rp at rx ry
    obtain ⟨a, kvs, e, q, _⟩ := rx
    exact .inr ⟨a, kvs, _, e, rd_mono R.sub q, ry, rfl⟩
  · cases h
theorem elsX_ok {P : Hp} {ι : List Addr} {F : Hp} {s : Sto} {H : Hp} (R : RelH T P ι F s H) : ∀ {xs ys : List D} {vs us : List V} {bs : List Bool}, Rps T F ι xs vs → Rps T F ι ys us → elsX xs ys = some bs → ElsX T.K H vs us bs
  | [], [], vs, us, bs, rx, ry, h => by unfold Rps at rx ry; subst rx ry; cases h; exact .nil
  | [], y :: ys, vs, us, bs, rx, ry, h => by cases h
  | x :: xs, [], vs, us, bs, rx, ry, h => by cases h
  | x :: xs, y :: ys, vs, us, bs, rx, ry, h => by
    unfold Rps at rx ry
    obtain ⟨v, vs, rfl, x1, x2⟩ := rx
    obtain ⟨u, us, rfl, y1, y2⟩ := ry
    unfold elsX at h
    split at h
    · rename_i b bs' h1 h2
      cases h
      exact .cons (elX_ok R x1 y1 h1) (elsX_ok R x2 y2 h2)
    · cases h
theorem do_eqB : DenOp T (rEqB T.K) oEqB := by
  intro x y dx dy H P ι F s Q E R rx ry post
  unfold oEqB at post
  cases e : oEqG false dx dy s with
  | ok d s1 => rw [e] at post; exact .inl (do_eq x y dx dy H P ι F s Q E R rx ry (by show Post T P (Rp T) Q E F ι (oEqG false dx dy s); rw [e]; exact post))
  | exc k s1 => rw [e] at post; exact .inl (do_eq x y dx dy H P ι F s Q E R rx ry (by show Post T P (Rp T) Q E F ι (oEqG false dx dy s); rw [e]; exact post))
  | stuck =>
    rw [e] at post
    have post1 : Post T P (Rp T) Q E F ι (match lqOf s dx, lqOf s dy with
      | some xs, some ys => if xs.length ≠ ys.length then .ok (.bl false) s else match elsX xs ys with
        | some bs => .ok (.bl (bs.all id)) s
        | none => .stuck
      | _, _ => .stuck) := post
    refine .inr ?_
    split at post1
    · rename_i xs ys h1 h2
      obtain ⟨a, vs, rfl, q1, r1⟩ := lq_of R rx h1
      obtain ⟨b, us, rfl, q2, r2⟩ := lq_of R ry h2
      split at post1
      · rename_i hne
        exact ⟨a, b, vs, us, rfl, rfl, q1, q2, .inl ⟨by rw [← r1.len, ← r2.len]; exact hne, post1.here R (by unfold Rp; rfl)⟩⟩
      · split at post1
        · rename_i bs hb
          refine ⟨a, b, vs, us, rfl, rfl, q1, q2, .inr ⟨bs, elsX_ok R r1 r2 hb, ?_⟩⟩
          simp only [Bool.false_bne]
          exact post1.here R (by unfold Rp; rfl)
        · exact post1.elim
    · exact post1.elim
end
end Mp
/-! # MpW -/
namespace Mp
open PySem PySem.Spec PyProof.Rows L2
/-! ## defs with defaults -/
section
variable {T : Tb} {P : Program} {w : World} {mg : Str → Option Value} {base : Heap}
/-- a def that may be called without its last arguments -/
structure Cld (T : Tb) (P : Program) (w : World) (mg : Str → Option Value) (base : Heap) (x : Str) (k n : Nat) (φ : List D → Sto → Res D) (dd : List D) : Prop where
  ex : ∃ (f : Addr) (fd : FuncData) (ps : List Str) (ds : List Value) (dvs : List V), mg x = some (.ref f) ∧ PySem.W.keepIn T.K (.ref f) = true ∧ Binds T.K fd ps ds ∧ Vals dvs ds ∧ (∀ F ι, Rps T F ι dd dvs) ∧ FnOk P w T.K mg base (L2.CX P w) k f fd ps (spD T n φ)
theorem dfl_all {x qual : Str} {params : Arguments} {body : List Stmt} {scope : Scope} {dvs : List V} {kws : List (Str × V)} {f : Addr} {fd : FuncData} {ps : List Str} {K : PySem.W.Frag} (F : FunD K x qual params body scope dvs kws f fd) (hd : dvs ≠ [])
    (h : ∀ (T : Addr) (kV doc pm : Value) (an : Option Addr) (cdv ct : Value) (us its : List Value), us.length = ps.length → its.length = dvs.length →
      ∃ k, bindArgs (PySem.W.fnOf x qual params body scope (.ref T) kV doc pm an cdv ct) ⟨us, []⟩ = seqItems? (.ref T) >>= k ∧ k (some its.toArray) = pure (ps.zip (us ++ its.drop dvs.length))) : Binds K fd ps [] := by
  obtain ⟨ds, h1, h2⟩ := FunD.binds1 (ps := ps) F ps.length dvs.length hd (by omega) h
  rw [List.drop_length] at h1
  cases h1
  exact h2
variable {X : Cx}
theorem d_callD {x : Str} {p pos : Pos} {e : Expr} {es : List Expr} {k j n : Nat} {φ : List D → Sto → Res D} {fa : DA} {dd : List D} (c : Cld T X.prog X.w X.mg X.base x k n φ dd) (ha : PDa T X (e :: es) fa) (hr : Room j X.A) (hk : k ≤ j := by decide) (hn : (e :: es).length + dd.length = n := by rfl) (hg : Gl X x := by rfl) (hK : X.K = T.K := by rfl)
    (hdb : (x == ("__debug__" : Str)) = false := by decide) (he : starEach (e :: es) X.env = (false, eval e X.env) :: starEach es X.env := by rfl) (hpl : (backTo pos (starEach es X.env)).any (·.1) = false := by rfl) :
    PDe T X (.Call (.Name x p) (e :: es) [] pos) (dCall (fun ds s => φ (ds ++ dd) s) fa) := fun pn xe W tk => by
  obtain ⟨t1, p1, d1⟩ := ha pn xe W tk
  obtain ⟨f, fd, ps, ds0, dvs, h1, h2, h3, h4, h5, h6⟩ := c.ex
  rw [← hK] at h2 h3 h6
  refine ⟨_, pe_callSD (X := X.tr pn xe) h6 (hr.mono hk) hg h1 h2 h3 h4 (fun σ => passAt tk σ) p1 hdb he hpl, fun σ H P ι F δ s Q R E post => ?_⟩
  show t1 σ H _
  refine den_then d1 R E post fun ds vs H1 ι1 F1 s1 g R1 E1 r1 post1 => ?_
  have r5 := h5 F1 ι1
  exact ⟨by rw [List.length_append, r1.2, ← r5.len]; exact hn, P, ι1, F1, s1, ds ++ dd, R1, r1.1.app r5, post1⟩
end
end Mp
/-! # MpX -/
namespace Mp
open PySem PySem.Spec PyProof.Rows L2
/-! ## dicts: values that stay, and cells -/
def dcOf (s : Sto) : D → Option (List D × List D)
  | .dct ks xs => some (ks, xs)
  | .loc n => match s[n]? with
    | some (.dct ks xs) => some (ks, xs)
    | _ => none
  | _ => none
def eqK : D → D → Bool
  | .int a, .int b => a == b
  | .str a, .str b => a == b
  | _, _ => false
def keyD : D → Option Key
  | .int a => some (.inl a)
  | .str z => some (.inr (S z))
  | _ => none
/-- what stands at the key -/
def lkD (k : D) : List D → List D → Option D
  | c :: ks, x :: xs => if eqK c k = true then some x else lkD k ks xs
  | _, _ => none
/-- .. in its place, or at the end -/
def repD (k x : D) : List D → List D → List D
  | c :: ks, y :: ys => (if eqK c k = true then x else y) :: repD k x ks ys
  | _, _ => []
def setD (k x : D) (ks xs : List D) : List D := if (ks.any fun c => eqK c k) = true then repD k x ks xs else xs ++ [x]
def setK (k : D) (ks : List D) : List D := if (ks.any fun c => eqK c k) = true then ks else ks ++ [k]
section
variable {T : Tb}
theorem dc_of {P : Hp} {ι : List Addr} {F : Hp} {s : Sto} {H : Hp} {d : D} {v : V} {ks xs : List D} (R : RelH T P ι F s H) (r : Rp T F ι d v) (h : dcOf s d = some (ks, xs)) :
    ∃ a kvs, v = .ref a ∧ Rd H a (.dK kvs) ∧ ks = kvs.map (fun p => kD p.1) ∧ Rps T F ι xs (kvs.map (·.2)) := by
  unfold dcOf at h
  split at h
  · cases h
    unfold Rp at r
    obtain ⟨a, kvs, e, q, k, r⟩ := r
    exact ⟨a, kvs, e, rd_mono R.sub q, k, r⟩
  · unfold Rp at r
    obtain ⟨a, e1, rfl⟩ := r
    split at h
    · rename_i hs
      cases h
      obtain ⟨_, kvs, h1, h2, h3⟩ := R.cell _ _ _ hs e1
      exact ⟨a, kvs, rfl, .inl h1, h2, h3⟩
    · cases h
  · cases h
theorem key_of' {F : Hp} {ι : List Addr} {d : D} {v : V} {k : Key} (r : Rp T F ι d v) (h : keyD d = some k) : v = kV k := by
  unfold keyD at h
  split at h
  · cases h; unfold Rp at r; exact r
  · cases h; unfold Rp at r; exact r
  · cases h
theorem eqK_kD {k j : Key} {d : D} (h : keyD d = some k) : eqK (kD j) d = decide (j = k) := by
  unfold keyD at h
  split at h
  · cases h
    cases j with
    | inl b =>
      rename_i a
      show (b == a) = _
      by_cases e : b = a
      · simp [e]
      · simp [e]
    | inr x => simp [kD, eqK]
  · cases h
    rename_i z
    cases j with
    | inl b => simp [kD, eqK]
    | inr x =>
      show (x.cps.toList == z) = _
      by_cases e : x = S z
      · subst e
        simp [S]
      · have : ¬ x.cps.toList = z := fun q => e (by
          subst q
          cases x
          rfl)
        simp [e, this]
  · cases h
theorem lk_valV {k : Key} {d : D} (hk : keyD d = some k) {F : Hp} {ι : List Addr} : ∀ {kvs : List (Key × V)} {xs : List D}, Rps T F ι xs (kvs.map (·.2)) → (∃ x v, lkD d (kvs.map fun p => kD p.1) xs = some x ∧ valV kvs k = some v ∧ Rp T F ι x v) ∨ (lkD d (kvs.map fun p => kD p.1) xs = none ∧ valV kvs k = none)
  | [], xs, r => by
    right
    constructor
    · rfl
    · rfl
  | p :: kvs, xs, r => by
    rw [List.map_cons] at r
    cases xs with
    | nil => unfold Rps at r; cases r
    | cons x xs =>
      unfold Rps at r
      obtain ⟨v, us, e, r1, r2⟩ := r
      injection e with e1 e2
      subst e1 e2
      rw [List.map_cons]
      unfold lkD
      rw [eqK_kD hk]
      by_cases c : p.1 = k
      · rw [if_pos (by simpa using c), valV_pos c]
        exact .inl ⟨x, p.2, rfl, rfl, r1⟩
      · rw [if_neg (by simpa using c), valV_neg c]
        exact lk_valV hk r2
theorem kD_of {k : Key} {d : D} (hk : keyD d = some k) : d = kD k := by
  unfold keyD at hk
  split at hk
  · cases hk; rfl
  · cases hk; simp [kD, S]
  · cases hk
theorem rep_valV {k : Key} {d x : D} {u : V} (hk : keyD d = some k) {F : Hp} {ι : List Addr} (hu : Rp T F ι x u) : ∀ {kvs : List (Key × V)} {xs : List D}, Rps T F ι xs (kvs.map (·.2)) →
    Rps T F ι (repD d x (kvs.map fun p => kD p.1) xs) ((kvs.map fun kv => if kv.1 = k then (kv.1, u) else kv).map (·.2))
  | [], xs, r => by unfold repD; exact .nil
  | p :: kvs, xs, r => by
    rw [List.map_cons] at r
    cases xs with
    | nil => unfold Rps at r; cases r
    | cons y xs =>
      unfold Rps at r
      obtain ⟨v, us, e, r1, r2⟩ := r
      injection e with e1 e2
      subst e1 e2
      rw [List.map_cons, List.map_cons, List.map_cons]
      unfold repD
      rw [eqK_kD hk]
      have ih := rep_valV hk hu r2
      by_cases c : p.1 = k
      · rw [if_pos (by simpa using c), if_pos c]
        exact .cons hu ih
      · rw [if_neg (by simpa using c), if_neg c]
        exact .cons r1 ih
theorem put_valV {k : Key} {d x : D} {u : V} (hk : keyD d = some k) {F : Hp} {ι : List Addr} (hu : Rp T F ι x u) {kvs : List (Key × V)} {xs : List D} (r : Rps T F ι xs (kvs.map (·.2))) :
    setK d (kvs.map fun p => kD p.1) = (putK kvs k u).map (fun p => kD p.1) ∧ Rps T F ι (setD d x (kvs.map fun p => kD p.1) xs) ((putK kvs k u).map (·.2)) := by
  have q : ((kvs.map fun p => kD p.1).any fun c => eqK c d) = kvs.any fun kv => decide (kv.1 = k) := by
    rw [List.any_map]
    congr 1
    funext p
    exact eqK_kD hk
  unfold setK setD putK
  rw [q]
  split
  · refine ⟨?_, rep_valV hk hu r⟩
    rw [List.map_map]
    refine List.map_congr_left fun p _ => ?_
    simp only [Function.comp]
    split <;> rfl
  · refine ⟨by rw [List.map_append, kD_of hk]; rfl, ?_⟩
    rw [List.map_append]
    exact r.app (.cons hu .nil)
/-! ### d[k], k in d, d[k] = v, len(d), list(d), {} -/
def oDix : DOp := fun x y s => match dcOf s x, keyD y with
  | some (ks, xs), some _ => match lkD y ks xs with
    | some d => .ok d s
    | none => .stuck
  | _, _ => .stuck
def dDix (f g : DE) : DE := fun δ s => (f δ s).bind fun x s1 => (g δ s1).bind fun y s2 => oDix x y s2
def dDin (neg : Bool) (g f : DE) : DE := fun δ s => (g δ s).bind fun y s1 => (f δ s1).bind fun x s2 => match dcOf s2 x, keyD y with
  | some (ks, xs), some _ => .ok (.bl (neg != (lkD y ks xs).isSome)) s2
  | _, _ => .stuck
variable {X : Cx}
theorem d_dix {o i : Expr} {pos : Pos} {f g : DE} (ho : PDe T X o f) (hi : PDe T X i g) (hu : X.A.units + 1 < cLine) (hs : NoSl i := by intro _ _; rfl) : PDe T X (.Subscript o i pos) (dDix f g) := fun pn xe W tk => by
  obtain ⟨t1, p1, d1⟩ := ho pn xe W tk
  obtain ⟨t2, p2, d2⟩ := hi pn xe W tk
  refine ⟨_, pe_dget (X := X.tr pn xe) hu p1 p2 hs, fun σ H P ι F δ s Q R E post => ?_⟩
  show t1 σ H _
  refine den_then d1 R E post fun x v H1 ι1 F1 s1 g1 R1 E1 r1 post1 => ?_
  refine den_then d2 R1 E1 post1 fun y u H2 ι2 F2 s2 g2 R2 E2 r2 post2 => ?_
  unfold oDix at post2
  split at post2
  · rename_i ks xs k h1 h2
    obtain ⟨a, kvs, rfl, h3, h4, h5⟩ := dc_of R2 (r1.mono g2) h1
    subst h4
    rcases lk_valV h2 h5 with ⟨x', v', e1, e2, e3⟩ | ⟨e1, e2⟩
    · rw [e1] at post2
      exact ⟨a, v', rfl, .inl ⟨kvs, k, h3, key_of' r2 h2, e2.symm⟩, post2.here R2 e3⟩
    · rw [e1] at post2
      exact post2.elim
  · exact post2.elim
theorem den_din {W : WX} {neg : Bool} {t1 t2 : TE} {f g : DE} (d2 : DenG T (Rp T) W t2 g) (d1 : DenG T (Rp T) W t1 f) {σ : L2.St} {H P : Hp} {ι : List Addr} {F : Hp} {δ : Env} {s : Sto} {Q : VK} (R : RelH T P ι F s H) (E : REnv T F ι δ σ)
    (post : Post T P (Rp T) Q (fun c H' => W (.ref (T.ca c)) none σ H') F ι (dDin neg g f δ s)) : t2 σ H fun y H1 => t1 σ H1 fun x H2 => ∃ a o, x = .ref a ∧ DGet H2 a y o ∧ Q (.bl (neg != o.isSome)) H2 := by
  refine den_then d2 R E post fun y u H1 ι1 F1 s1 g1 R1 E1 r1 post1 => ?_
  refine den_then d1 R1 E1 post1 fun x v H2 ι2 F2 s2 g2 R2 E2 r2 post2 => ?_
  split at post2
  · rename_i ks xs k h1 h2
    obtain ⟨a, kvs, rfl, h3, h4, h5⟩ := dc_of R2 r2 h1
    subst h4
    rcases lk_valV h2 h5 with ⟨x', v', e1, e2, e3⟩ | ⟨e1, e2⟩
    · rw [e1] at post2
      exact ⟨a, some v', rfl, .inl ⟨kvs, k, h3, key_of' (r1.mono g2) h2, e2.symm⟩, post2.here R2 (by unfold Rp; rfl)⟩
    · rw [e1] at post2
      exact ⟨a, none, rfl, .inl ⟨kvs, k, h3, key_of' (r1.mono g2) h2, e2.symm⟩, post2.here R2 (by unfold Rp; rfl)⟩
  · exact post2.elim
theorem d_din {o i : Expr} {pos : Pos} {f g : DE} (hi : PDe T X i g) (ho : PDe T X o f) (hu : X.A.units + 1 < cLine) (hm : behindInMarks .In o = false := by rfl) : PDe T X (.Compare i [.In] [o] pos) (dDin false g f) := fun pn xe W tk => by
  obtain ⟨t1, p1, d1⟩ := ho pn xe W tk
  obtain ⟨t2, p2, d2⟩ := hi pn xe W tk
  refine ⟨_, pe_cmp (pc_din (X := X.tr pn xe) hu p2 p1) hm, fun σ H P ι F δ s Q R E post => ?_⟩
  have := den_din (neg := false) d2 d1 R E post
  simp only [Bool.false_bne] at this
  exact this
theorem d_dnotin {o i : Expr} {pos : Pos} {f g : DE} (hi : PDe T X i g) (ho : PDe T X o f) (hu : X.A.units + 1 < cLine) (hm : behindInMarks .NotIn o = false := by rfl) : PDe T X (.Compare i [.NotIn] [o] pos) (dDin true g f) := fun pn xe W tk => by
  obtain ⟨t1, p1, d1⟩ := ho pn xe W tk
  obtain ⟨t2, p2, d2⟩ := hi pn xe W tk
  refine ⟨_, pe_cmp (pc_dnotin (X := X.tr pn xe) hu p2 p1) hm, fun σ H P ι F δ s Q R E post => ?_⟩
  have := den_din (neg := true) d2 d1 R E post
  simp only [Bool.true_bne] at this
  exact this
/-- .. as a test -/
theorem t_din {o i : Expr} {pos : Pos} {f g : DE} (hi : PDe T X i g) (ho : PDe T X o f) (hu : X.A.units + 1 < cLine) (hm : behindInMarks .In o = false := by rfl) : PDt T X (.Compare i [.In] [o] pos) (tst (dDin false g f)) := fun pn xe W tk => by
  obtain ⟨t, p, d⟩ := d_din (pos := pos) hi ho hu hm pn xe W tk
  obtain ⟨t1, p1, d1⟩ := ho pn xe W tk
  obtain ⟨t2, p2, d2⟩ := hi pn xe W tk
  refine ⟨_, pt_cmp (pc_din (X := X.tr pn xe) hu p2 p1) hm, fun σ H P ι F δ s Q R E post => ?_⟩
  refine den_tst (t := tDIn t2 t1) (f := dDin false g f) (fun σ H P ι F δ s Q R E post => ?_) σ H P ι F δ s Q R E post
  have := den_din (neg := false) d2 d1 R E post
  simp only [Bool.false_bne] at this
  exact this
theorem t_dnotin {o i : Expr} {pos : Pos} {f g : DE} (hi : PDe T X i g) (ho : PDe T X o f) (hu : X.A.units + 1 < cLine) (hm : behindInMarks .NotIn o = false := by rfl) : PDt T X (.Compare i [.NotIn] [o] pos) (tst (dDin true g f)) := fun pn xe W tk => by
  obtain ⟨t1, p1, d1⟩ := ho pn xe W tk
  obtain ⟨t2, p2, d2⟩ := hi pn xe W tk
  refine ⟨_, pt_cmp (pc_dnotin (X := X.tr pn xe) hu p2 p1) hm, fun σ H P ι F δ s Q R E post => ?_⟩
  refine den_tst (t := tDNotIn t2 t1) (f := dDin true g f) (fun σ H P ι F δ s Q R E post => ?_) σ H P ι F δ s Q R E post
  have := den_din (neg := true) d2 d1 R E post
  simp only [Bool.true_bne] at this
  exact this
/-- d[k] = v, d a cell -/
def sDput (fv fo fi : DE) : DS := fun δ s => (fv δ s).out δ fun d s1 => (fo δ s1).out δ fun o s2 => (fi δ s2).out δ fun i s3 => match o, keyD i with
  | .loc n, some _ => match s3[n]? with
    | some (.dct ks xs) => if ks.length < 1000 then .nx δ (s3.set n (.dct (setK i ks) (setD i d ks xs))) else .stuck
    | _ => .stuck
  | _, _ => .stuck
theorem s_dput {o i e : Expr} {tpos pos : Pos} {fv fo fi : DE} (he : PDe T X e fv) (ho : PDe T X o fo) (hi : PDe T X i fi) (hu : X.A.units + 1 < cLine) (hs : swapsWith e (some (.Subscript o i tpos)) pos.line X.env = pure false := by rfl) :
    PDs T X (.Assign [.Subscript o i tpos] e pos) (sDput fv fo fi) := fun pn xe W tk _ => by
  obtain ⟨t1, p1, d1⟩ := he pn xe W tk
  obtain ⟨t2, p2, d2⟩ := ho pn xe W tk
  obtain ⟨t3, p3, d3⟩ := hi pn xe W tk
  refine ⟨_, ps_dput (X := X.tr pn xe) hu p2 p3 p1 hs, fun En σ H P ι F δ s R E post => ?_⟩
  show t1 σ H _
  refine dens_then d1 R E post fun x v H1 ι1 F1 s1 g1 R1 E1 r1 post1 => ?_
  refine dens_then d2 R1 E1 post1 fun y u H2 ι2 F2 s2 g2 R2 E2 r2 post2 => ?_
  refine dens_then d3 R2 E2 post2 fun z w H3 ι3 F3 s3 g3 R3 E3 r3 post3 => ?_
  split at post3
  · rename_i n k h2
    split at post3
    · rename_i ks xs hs3
      split at post3
      · rename_i hl
        have r2' := r2.mono g3
        unfold Rp at r2'
        obtain ⟨a, e1, rfl⟩ := r2'
        obtain ⟨h4, kvs, h5, h6, h7⟩ := R3.cell _ _ _ hs3 e1
        subst h6
        rw [List.length_map] at hl
        obtain ⟨q1, q2⟩ := put_valV h2 (r1.mono (g2.trans g3)) h7
        refine ⟨a, _, rfl, .inl ⟨kvs, k, h5, key_of' r3 h2, by rw [sizeLine_eq]; omega, rfl⟩, ?_⟩
        exact post3 σ _ ι3 F3 (Grow.refl _ _) (R3.setC hs3 rfl e1 ⟨h4, _, upd_same, q1, q2⟩) E3
      · exact post3.elim
    · exact post3.elim
  · exact post3.elim
/-- {}, a cell -/
def dDctC : DE := fun _ s => .ok (.loc s.length) (s ++ [.dct [] []])
theorem d_dctC {pos : Pos} : PDe T X (.Dict [] [] pos) dDctC := fun pn xe W tk => ⟨_, pe_dnewK, fun σ H P ι F δ s Q R E post p hp => post_loc post R hp ⟨R.freeF hp, [], upd_same, rfl, .nil⟩⟩
def rLenD : List V → Hp → VK → Prop := fun xs H Q => ∃ a kvs, xs = [V.ref a] ∧ Rd H a (.dK kvs) ∧ Q (.int kvs.length) H
theorem call_lenD : CallR X (.builtin "len") rLenD := by
  intro pins s σ H xs us Q I r h
  obtain ⟨a, kvs, rfl, e, q⟩ := h
  rw [Vals.ref1 r]
  exact d_len I e fun t s' I' => ⟨.int kvs.length, H, I', ⟨t, rfl⟩, q⟩
def bLenA : DB := fun ds s => match ds with
  | [x] => match dcOf s x with
    | some (ks, _) => .ok (.int ks.length) s
    | none => bLen [x] s
  | _ => .stuck
theorem db_lenA : DenB T (fun xs H Q => rLen T.K xs H Q ∨ rLenD xs H Q) bLenA := by
  intro ds vs H P ι F s Q E R r post
  unfold bLenA at post
  split at post
  · obtain ⟨v, rfl, h1⟩ := rps1 r
    split at post
    · rename_i ks xs h
      obtain ⟨a, kvs, rfl, h3, h4, h5⟩ := dc_of R h1 h
      refine .inr ⟨a, kvs, rfl, h3, ?_⟩
      subst h4
      rw [List.length_map] at post
      exact post.here R (by unfold Rp; rfl)
    · exact .inl (db_len _ _ _ _ _ _ _ _ _ R r post)
  · exact post.elim
theorem call_lenA : CallR X (.builtin "len") (fun xs H Q => rLen X.K xs H Q ∨ rLenD xs H Q) := CallR.or call_len call_lenD
def bListA : DB := fun ds s => match ds with
  | [x] => match dcOf s x with
    | some (ks, _) => .ok (.lst ks) s
    | none => bList [x] s
  | _ => .stuck
abbrev rListD : List V → Hp → VK → Prop := fun xs H Q => ∃ (a : Addr) (kvs : List (Key × V)), xs = [.ref a] ∧ Rd H a (.dK kvs) ∧ ∀ p, H p = none → Q (.ref p) (upd H p (.lst (kvs.map fun kv => kV kv.1)))
theorem rps_keys {F : Hp} {ι : List Addr} : ∀ kvs : List (Key × V), Rps T F ι (kvs.map fun p => kD p.1) (kvs.map fun p => kV p.1)
  | [] => .nil
  | p :: kvs => by
    rw [List.map_cons, List.map_cons]
    refine .cons ?_ (rps_keys kvs)
    cases p.1 with
    | inl i => unfold kD Rp; rfl
    | inr x =>
      unfold kD Rp
      show V.str x = _
      congr 1
theorem db_listA : DenB T (fun xs H Q => rListOf T.K xs H Q ∨ rListD xs H Q) bListA := by
  intro ds vs H P ι F s Q E R r post
  unfold bListA at post
  split at post
  · obtain ⟨v, rfl, h1⟩ := rps1 r
    split at post
    · rename_i ks xs h
      obtain ⟨a, kvs, rfl, h3, h4, h5⟩ := dc_of R h1 h
      refine .inr ⟨a, kvs, rfl, h3, fun p hp => post.new R hp fun g => ?_⟩
      unfold Rp
      subst h4
      exact ⟨p, _, rfl, upd_same, rps_keys kvs⟩
    · exact .inl (db_list _ _ _ _ _ _ _ _ _ R r post)
  · exact post.elim
theorem call_listA (hc : X.calm = true) : CallR X (.type "list") (fun xs H Q => rListOf X.K xs H Q ∨ rListD xs H Q) := CallR.or call_list_of (call_listD hc)
end
end Mp
/-! # MpY -/
namespace Mp
open PySem PySem.Spec PyProof.Rows L2
theorem hu_of {n : Nat} (h : n + 64 < cLine) : n + 1 < cLine := by omega
section
variable {T : Tb} {X : Cx}
/-! ## x += e, whole numbers -/
def sAug (i : Nat) (g : Int → Int → Int) (f : DE) : DS := fun δ s => match δ[i]? with
  | some (some (.int a)) => (f δ s).out δ fun x s1 => match x with
    | .int b => .nx (δ.set i (some (.int (g a b)))) s1
    | _ => .stuck
  | _ => .stuck
theorem s_augAdd {x : Str} {e : Expr} {pos pos' : Pos} {f : DE} (i : Nat) (hN : X.N.Nodup) (he : PDe T X e f) (hi : X.N[i]? = some x := by rfl) (hx : Loc X.env.scope x := by first | exact Or.inl rfl | exact Or.inr rfl)
    (hf : X.fn x = true ∨ X.env.scope.names.lookup x = some .local := by first | exact Or.inr rfl | exact Or.inl rfl) : PDs T X (.AugAssign (.Name x pos') .Add e pos) (sAug i (fun a b => a + b) f) := fun pn xe W tk _ => by
  obtain ⟨t1, p1, d1⟩ := he pn xe W tk
  refine ⟨_, ps_aug (X := X.tr pn xe) (i := i) hN hi hx p1 ip_add hf, fun En σ H P ι F δ s R E post => ?_⟩
  unfold sAug at post
  split at post
  · rename_i a ha
    obtain ⟨v, e1, e2⟩ := E.at_ i _ ha
    unfold Rp at e2
    subst e2
    refine ⟨_, e1, ?_⟩
    refine dens_then d1 R E post fun y u H1 ι1 F1 s1 g1 R1 E1 r1 post1 => ?_
    split at post1
    · unfold Rp at r1
      refine ⟨_, _, rfl, r1, ?_⟩
      exact post1 _ H1 ι1 F1 (Grow.refl _ _) R1 (E1.set (by unfold Rp; rfl) i)
    · exact post1.elim
  · exact post.elim
/-! ## xs[::-1] -/
def dRev (f : DE) : DE := fun δ s => (f δ s).bind fun x s1 => match lqOf s1 x with
  | some xs => .ok (.lst xs.reverse) s1
  | none => .stuck
theorem d_rev {e : Expr} {k : Nat} {p1 p2 p3 pos : Pos} {f : DE} (he : PDe T X e f) (hK : X.K = T.K := by rfl) : PDe T X (.Subscript e (.Slice none none (some (.UnaryOp .USub (.Constant (.int 1) k p1) p2)) p3) pos) (dRev f) := fun pn xe W tk => by
  obtain ⟨t1, p1', d1⟩ := he pn xe W tk
  have hK' : (X.tr pn xe).K = T.K := hK
  refine ⟨_, pe_revL (X := X.tr pn xe) p1', fun σ H P ι F δ s Q R E post => ?_⟩
  rw [hK']
  show t1 σ H _
  refine den_then d1 R E post fun x v H1 ι1 F1 s1 g1 R1 E1 r1 post1 => ?_
  split at post1
  · rename_i xs h
    obtain ⟨a, us, rfl, h2, h3⟩ := lq_of R1 r1 h
    refine ⟨a, us, rfl, h2, fun p hp => post1.new R1 hp fun g => ?_⟩
    unfold Rp
    exact ⟨p, _, rfl, upd_same, h3.rev.mono g⟩
  · exact post1.elim
/-! ## xs[i:j], as a cell -/
def dSlC (f : DE) (lo hi : DOI) : DE := fun δ s => (f δ s).bind fun x s1 => (lo δ s1).bind fun l s2 => (hi δ s2).bind fun u s3 => match lqOf s3 x with
  | some xs => .ok (.loc s3.length) (s3 ++ [.lst (cutL xs l u)])
  | none => .stuck
theorem d_slC {e : Expr} {lo hi : Option Expr} {p2 pos : Pos} {f : DE} {g h : DOI} (he : PDe T X e f) (hl : PDo T X lo g) (hh : PDo T X hi h) (hK : X.K = T.K := by rfl) : PDe T X (.Subscript e (.Slice lo hi none p2) pos) (dSlC f g h) := fun pn xe W tk => by
  obtain ⟨t1, p1, d1⟩ := he pn xe W tk
  obtain ⟨t2, p2, d2⟩ := hl pn xe W tk
  obtain ⟨t3, p3, d3⟩ := hh pn xe W tk
  refine ⟨_, pe_slice (X := X.tr pn xe) sl_list p1 p2 p3, fun σ H P ι F δ s Q R E post => ?_⟩
  show t1 σ H _
  refine den_then d1 R E post fun x y H1 ι1 F1 s1 g1 R1 E1 r1 post1 => ?_
  refine den_then d2 R1 E1 post1 fun l l' H2 ι2 F2 s2 g2 R2 E2 r2 post2 => ?_
  refine den_then d3 R2 E2 post2 fun u u' H3 ι3 F3 s3 g3 R3 E3 r3 post3 => ?_
  cases r2
  cases r3
  have rx := (r1.mono g2).mono g3
  have hK' : (X.tr pn xe).K = T.K := hK
  rw [hK']
  split at post3
  · rename_i xs h
    obtain ⟨a, vs, rfl, h2, h3⟩ := lq_of R3 rx h
    refine ⟨a, vs, rfl, h2, fun p hp => post_loc post3 R3 hp ?_⟩
    exact ⟨R3.freeF hp, _, upd_same, (cut_ok h3 l u).mono (grow_app _ _ _)⟩
  · exact post3.elim
end
end Mp
/-! # MpZ -/
namespace Mp
open PySem PySem.Spec PyProof.Rows L2
section
variable {T : Tb} {X : Cx}
/-! ## enumerate(xs) -/
def enD : Nat → List D → List D
  | _, [] => []
  | i, x :: xs => .tup [.int (i : Int), x] :: enD (i + 1) xs
theorem enD_len : ∀ {i : Nat} {xs : List D}, (enD i xs).length = xs.length
  | _, [] => rfl
  | i, x :: xs => by simp [enD, enD_len (i := i + 1) (xs := xs)]
theorem enD_at : ∀ {xs : List D} {i j : Nat} {x : D}, xs[j]? = some x → (enD i xs)[j]? = some (.tup [.int ((i + j : Nat) : Int), x])
  | [], _, _, _, h => by simp at h
  | y :: ys, i, 0, x, h => by
    simp at h
    subst h
    rfl
  | y :: ys, i, j + 1, x, h => by
    have e := enD_at (i := i + 1) (show ys[j]? = some x by simpa using h)
    show (enD (i + 1) ys)[j]? = _
    rw [e, show i + 1 + j = i + (j + 1) by omega]
theorem walks_enum {F : Hp} {ι : List Addr} {a : Addr} {vs : List V} {ds : List D} (h : SqL T.K F a vs) (r : Rps T F ι ds vs) : Walks T (Ite T.K a) (enD 0 ds) F ι := by
  unfold Walks
  rw [enD_len, r.len]
  exact {
    goes := fun i H hi hF => by
      obtain ⟨x, hx⟩ := get_lt hi
      exact ⟨vs, x, sql_mono hF h, hx⟩
    stops := fun H hF => ⟨vs, sql_mono hF h, Nat.le_refl _⟩
    yields := fun i H x H' hi hF y => by
      obtain ⟨p, z, e1, e2, e3, e4⟩ := y
      have e5 := e4 vs (sql_mono hF h)
      have hi1 : i < ds.length := by rw [r.len]; exact hi
      obtain ⟨d, hd⟩ := get_lt hi1
      obtain ⟨v', h1, h2⟩ := r.get hd
      rw [e5] at h1
      cases h1
      refine ⟨_, enD_at (i := 0) hd, .inr ⟨p, [.int ((i : Nat) : Int), z], _, e1, e2, e3, rfl, .cons ?_ (.cons h2 .nil)⟩⟩
      unfold Rp
      rw [Nat.zero_add] }
def itEnum (f : DA) : DIt := fun δ s => (f δ s).bind fun xs s1 => match xs with
  | [.lst a] => .ok (enD 0 a) s1
  | _ => .stuck
theorem i_enum {e : Expr} {p pos tpos : Pos} {elts : List Expr} {kk : Nat} {f : DA} (hm : X.mg "enumerate" = none) (ha : PDa T X [e] f) (hg : Gl X "enumerate" := by rfl)
    (hs : starEach [e] X.env = [(false, eval e X.env)] := by rfl) (hK : X.K = T.K := by rfl) :
    PDi T X (.Tuple elts kk tpos) (.Call (.Name "enumerate" p) [e] [] pos) (itEnum f) := fun pn xe W tk => by
  obtain ⟨t1, p1, d1⟩ := ha pn xe W tk
  have hK' : (X.tr pn xe).K = T.K := hK
  refine ⟨_, pi_enum (X := X.tr pn xe) hg hm p1 hs, fun σ H P ι F δ s Q R E post => ?_⟩
  rw [hK']
  show t1 σ H _
  refine den_then d1 R E post fun x y H1 ι1 F1 s1 g R1 E1 r1 post1 => ?_
  split at post1
  · obtain ⟨v, rfl, h1⟩ := rps1 r1.1
    unfold Rp at h1
    obtain ⟨a, vs, rfl, h3, h4⟩ := h1
    exact ⟨a, vs, rfl, SqL.of (R1.sub _ _ h3), post1.here R1 (walks_enum (SqL.of h3) h4)⟩
  · exact post1.elim
end
end Mp
namespace Mp
open PySem PySem.Spec PyProof.Rows L2
section
variable {δ : Env} {s : Sto}
@[simp] theorem itEnum_eq {f : DA} : itEnum f δ s = (f δ s).bind fun xs s1 => match xs with
  | [.lst a] => .ok (enD 0 a) s1
  | _ => .stuck := rfl
@[simp] theorem dcOf_dct {ks xs : List D} : dcOf s (.dct ks xs) = some (ks, xs) := rfl
@[simp] theorem dcOf_loc {n : Nat} : dcOf s (.loc n) = match s[n]? with
    | some (.dct ks xs) => some (ks, xs)
    | _ => none := rfl
@[simp] theorem keyD_int {a : Int} : keyD (.int a) = some (.inl a) := rfl
@[simp] theorem keyD_str {z : List Nat} : keyD (.str z) = some (.inr (S z)) := rfl
@[simp] theorem dDix_eq {f g : DE} : dDix f g δ s = (f δ s).bind fun x s1 => (g δ s1).bind fun y s2 => oDix x y s2 := rfl
@[simp] theorem dDin_eq {neg : Bool} {f g : DE} : dDin neg g f δ s = (g δ s).bind fun y s1 => (f δ s1).bind fun x s2 => match dcOf s2 x, keyD y with
  | some (ks, xs), some _ => .ok (.bl (neg != (lkD y ks xs).isSome)) s2
  | _, _ => .stuck := rfl
@[simp] theorem sDput_eq {fv fo fi : DE} : sDput fv fo fi δ s = (fv δ s).out δ fun d s1 => (fo δ s1).out δ fun o s2 => (fi δ s2).out δ fun i s3 => match o, keyD i with
  | .loc n, some _ => match s3[n]? with
    | some (.dct ks xs) => if ks.length < 1000 then .nx δ (s3.set n (.dct (setK i ks) (setD i d ks xs))) else .stuck
    | _ => .stuck
  | _, _ => .stuck := rfl
@[simp] theorem bLenA_loc {n : Nat} {ks xs : List D} (h : s[n]? = some (.dct ks xs)) : bLenA [.loc n] s = .ok (.int ks.length) s := by
  unfold bLenA
  simp [h]
@[simp] theorem bListA_loc {n : Nat} {ks xs : List D} (h : s[n]? = some (.dct ks xs)) : bListA [.loc n] s = .ok (.lst ks) s := by
  unfold bListA
  simp [h]
@[simp] theorem bTuple_lst {xs : List D} : bTuple [.lst xs] s = .ok (.tup xs) s := rfl
@[simp] theorem bTuple_tup {xs : List D} : bTuple [.tup xs] s = .ok (.tup xs) s := rfl
@[simp] theorem dDctC_eq : dDctC δ s = .ok (.loc s.length) (s ++ [.dct [] []]) := rfl
@[simp] theorem dRev_eq {f : DE} : dRev f δ s = (f δ s).bind fun x s1 => match lqOf s1 x with
  | some xs => .ok (.lst xs.reverse) s1
  | none => .stuck := rfl
@[simp] theorem sAug_eq {i : Nat} {g : Int → Int → Int} {f : DE} : sAug i g f δ s = match δ[i]? with
  | some (some (.int a)) => (f δ s).out δ fun x s1 => match x with
    | .int b => .nx (δ.set i (some (.int (g a b)))) s1
    | _ => .stuck
  | _ => .stuck := rfl
@[simp] theorem dSlC_eq {f : DE} {lo hi : DOI} : dSlC f lo hi δ s = (f δ s).bind fun x s1 => (lo δ s1).bind fun l s2 => (hi δ s2).bind fun u s3 => match lqOf s3 x with
  | some xs => .ok (.loc s3.length) (s3 ++ [.lst (cutL xs l u)])
  | none => .stuck := rfl
@[simp] theorem lkD_nil {k : D} : lkD k [] [] = none := rfl
theorem lkD_cons {k c x : D} {ks xs : List D} : lkD k (c :: ks) (x :: xs) = if eqK c k = true then some x else lkD k ks xs := rfl
@[simp] theorem eqK_str {a b : List Nat} : eqK (.str a) (.str b) = (a == b) := rfl
end
end Mp
/-! # MpO -/
namespace Mp
open PySem PySem.Spec PyProof.Rows L2
/-! ## x or y, x and y by truth -/
def truD (s : Sto) : D → Option Bool
  | .non => some false
  | .bl b => some b
  | .int i => some (i != 0)
  | .tup xs => some (!xs.isEmpty)
  | x => match lqOf s x with
    | some xs => some (!xs.isEmpty)
    | none => none
section
variable {T : Tb} {X : Cx}
variable {P F : Hp} {ι : List Addr} {s : Sto} {H : Hp}
theorem emp_of {F : Hp} {ι : List Addr} {ds : List D} {vs : List V} (r : Rps T F ι ds vs) : vs.isEmpty = ds.isEmpty := by
  have h := r.len
  cases ds <;> cases vs <;> simp_all
theorem tru_of (R : RelH T P ι F s H) {d : D} {v : V} {k : Bool} (r : Rp T F ι d v) (e : truD s d = some k) : TruV T.K v H k := by
  have seq : ∀ xs, lqOf s d = some xs → k = !xs.isEmpty → TruV T.K v H k := fun xs h q => by
    obtain ⟨a, vs, rfl, h2, h3⟩ := lq_of R r h
    exact .inl ⟨vs, h2, by rw [emp_of h3, q]⟩
  cases d with
  | non =>
    unfold Rp at r
    cases e
    subst r
    rfl
  | bl b =>
    unfold Rp at r
    cases e
    subst r
    rfl
  | int i =>
    unfold Rp at r
    cases e
    subst r
    rfl
  | tup xs =>
    obtain ⟨a, vs, rfl, h1, h2, h3⟩ := tp_of R r
    cases e
    exact .inr (.inl ⟨vs, SqT.of h1, by rw [emp_of h3]⟩)
  | _ =>
    simp only [truD] at e
    split at e
    · rename_i xs h
      cases e
      exact seq _ h rfl
    · cases e
def dOrT (f g : DE) : DE := fun δ s => (f δ s).bind fun x s1 => match truD s1 x with
  | some true => .ok x s1
  | some false => g δ s1
  | none => .stuck
theorem d_orT {a b : Expr} {rest : List Expr} {pos : Pos} {fa fb : DE} (ha : PDe T X a fa) (hb : PDe T X (.BoolOp .Or (b :: rest) pos) fb) (hK : X.K = T.K := by rfl) : PDe T X (.BoolOp .Or (a :: b :: rest) pos) (dOrT fa fb) := fun pn xe W tk => by
  obtain ⟨t1, p1, d1⟩ := ha pn xe W tk
  obtain ⟨t2, p2, d2⟩ := hb pn xe W tk
  have hK' : (X.tr pn xe).K = T.K := hK
  refine ⟨_, pe_orT (X := X.tr pn xe) p1 p2, fun σ H P ι F δ s Q R E post => ?_⟩
  rw [hK']
  show t1 σ H _
  refine den_then d1 R E post fun x y H1 ι1 F1 s1 g1 R1 E1 r1 post1 => ?_
  cases h : truD s1 x with
  | none =>
    rw [h] at post1
    exact post1.elim
  | some b =>
    rw [h] at post1
    refine ⟨b, tru_of R1 r1 h, ?_⟩
    cases b with
    | true =>
      rw [if_pos rfl]
      exact post1.here R1 r1
    | false =>
      rw [if_neg Bool.false_ne_true]
      exact d2 _ _ _ _ _ _ _ _ R1 E1 post1
/-- a value as a test, by its truth -/
def tTru (f : DE) : DT := fun δ s => (f δ s).bind fun x s1 => match truD s1 x with
  | some b => .ok b s1
  | none => .stuck
theorem t_tru {e : Expr} {f : DE} (h : PDe T X e f) (he : ∀ whole, isTrue e X.env whole = (do let v ← whole; standAt e.pos; holding [v] (truthy v)) := by intro _; rfl) (hK : X.K = T.K := by rfl) : PDt T X e (tTru f) := fun pn xe W tk => by
  obtain ⟨t1, p1, d1⟩ := h pn xe W tk
  have hK' : (X.tr pn xe).K = T.K := hK
  refine ⟨_, pt_truth (X := X.tr pn xe) p1 he, fun σ H P ι F δ s Q R E post => ?_⟩
  rw [hK']
  show t1 σ H _
  refine den_then d1 R E post fun x y H1 ι1 F1 s1 g1 R1 E1 r1 post1 => ?_
  cases h : truD s1 x with
  | none =>
    rw [h] at post1
    exact post1.elim
  | some b =>
    rw [h] at post1
    exact ⟨b, tru_of R1 r1 h, post1.here R1 rfl⟩
end
section
variable {δ : Env} {s : Sto}
@[simp] theorem dOrT_eq {f g : DE} : dOrT f g δ s = (f δ s).bind fun x s1 => match truD s1 x with
  | some true => .ok x s1
  | some false => g δ s1
  | none => .stuck := rfl
@[simp] theorem tTru_eq {f : DE} : tTru f δ s = (f δ s).bind fun x s1 => match truD s1 x with
  | some b => .ok b s1
  | none => .stuck := rfl
@[simp] theorem truD_non : truD s .non = some false := rfl
@[simp] theorem truD_bl {b : Bool} : truD s (.bl b) = some b := rfl
@[simp] theorem truD_int {i : Int} : truD s (.int i) = some (i != 0) := rfl
@[simp] theorem truD_tup {xs : List D} : truD s (.tup xs) = some (!xs.isEmpty) := rfl
@[simp] theorem truD_lst {xs : List D} : truD s (.lst xs) = some (!xs.isEmpty) := rfl
end
end Mp
/-! # MpP -/
namespace Mp
open PySem PySem.Spec PyProof.Rows L2
/-! ## triples of a number and two texts: min, remove -/
abbrev T3 := Int × List Nat × List Nat
def d3 (t : T3) : D := .tup [.int t.1, .str t.2.1, .str t.2.2]
def of3 : D → Option T3
  | .tup [.int m, .str a, .str b] => some (m, a, b)
  | _ => none
def of3s : List D → Option (List T3)
  | [] => some []
  | d :: r => match of3 d, of3s r with
    | some t, some ts => some (t :: ts)
    | _, _ => none
theorem of3_ok {d : D} {t : T3} (h : of3 d = some t) : d = d3 t := by
  unfold of3 at h
  split at h
  · cases h; rfl
  · cases h
theorem of3s_ok : ∀ {ds : List D} {ts : List T3}, of3s ds = some ts → ds = ts.map d3
  | [], ts, h => by cases h; rfl
  | d :: r, ts, h => by
    unfold of3s at h
    cases h1 : of3 d with
    | none => rw [h1] at h; cases h
    | some t =>
      cases h2 : of3s r with
      | none => rw [h1, h2] at h; cases h
      | some us =>
        rw [h1, h2] at h
        cases h
        rw [of3_ok h1, of3s_ok h2]
        rfl
theorem of3s_map : ∀ ts : List T3, of3s (ts.map d3) = some ts
  | [] => rfl
  | t :: ts => by
    rw [List.map_cons]
    unfold of3s
    rw [of3s_map ts]
    rfl
def p3 (t : T3) : PyData := .tuple [.int t.1, .str (S t.2.1), .str (S t.2.2)]
theorem p3_inj {a b : T3} (h : p3 a = p3 b) : a = b := by
  unfold p3 at h
  injection h with h
  injection h with h1 h
  injection h with h2 h
  injection h with h3 h
  injection h1 with h1
  injection h2 with h2
  injection h3 with h3
  obtain ⟨a1, a2, a3⟩ := a
  obtain ⟨b1, b2, b3⟩ := b
  simp only at h1 h2 h3
  rw [h1, S_inj h2, S_inj h3]
theorem toP3 (t : T3) : toP (d3 t) = some (p3 t) := rfl
theorem toPs3 : ∀ ts : List T3, toPs (ts.map d3) = some (ts.map p3)
  | [] => rfl
  | t :: ts => by
    rw [List.map_cons]
    unfold toPs
    rw [toP3, toPs3 ts]
    rfl
def lt3 (a b : T3) : Bool := PySem.W.dataLt (p3 a) (p3 b)
def min3 (x : T3) (xs : List T3) : T3 := xs.foldl (fun a y => if lt3 y a = true then y else a) x
theorem minD3 : ∀ (xs : List T3) (x : T3), PySem.W.minD (p3 x) (xs.map p3) = p3 (min3 x xs)
  | [], x => rfl
  | y :: xs, x => by
    have ih := minD3 xs (if lt3 y x = true then y else x)
    unfold PySem.W.minD min3 at ih ⊢
    rw [List.map_cons, List.foldl_cons, List.foldl_cons, ← ih]
    have : (if PySem.W.dataLt (p3 y) (p3 x) = true then p3 y else p3 x) = p3 (if lt3 y x = true then y else x) := by
      unfold lt3
      split <;> rfl
    rw [this]
theorem dep3 : ∀ ts : List T3, PyData.depthAll (ts.map p3) ≤ 1
  | [] => Nat.zero_le _
  | t :: ts => by
    rw [List.map_cons]
    unfold PyData.depthAll
    have := dep3 ts
    have e : (p3 t).depth = 1 := rfl
    rw [e]
    omega
theorem alike3 (ts : List T3) : PySem.W.AlikeAll (ts.map p3) := ⟨fun x hx y hy => by
    obtain ⟨i, _, rfl⟩ := List.mem_map.mp hx
    obtain ⟨j, _, rfl⟩ := List.mem_map.mp hy
    rfl, fun x hx => by
    obtain ⟨i, _, rfl⟩ := List.mem_map.mp hx
    intro z; cases z⟩
theorem plain3 : ∀ ts : List T3, PyData.plainAll (ts.map p3) = true
  | [] => rfl
  | t :: ts => by
    rw [List.map_cons]
    unfold PyData.plainAll
    rw [plain3 ts]
    rfl
def rMin3 (K : PySem.W.Frag) : List V → Hp → VK → Prop := fun xs H Q => ∃ (a : Addr) (vs : List V) (t : T3) (ts : List T3), xs = [.ref a] ∧ SqL K H a vs ∧ DpAll K H vs ((t :: ts).map p3) ∧ ∀ (i : Nat) (v : V), (t :: ts)[i]? = some (min3 t ts) → vs[i]? = some v → Q v H
theorem call_min3D {X : Cx} (hc : X.calm = true) (hu : X.A.units + 64 < cLine) : CallR X (.builtin "min") (rMin3 X.K) := by
  intro pins s σ H xs us Q I r h
  obtain ⟨a, vs, t, ts, rfl, hs, hd, q⟩ := h
  obtain ⟨its, rv, hl, _⟩ := I.list hs
  rw [Vals.ref1 r]
  obtain ⟨as, hr⟩ := Dp.readsAll I _ vs its hd rv
  have dep := dep3 (t :: ts)
  refine PySem.W.min_list_data (I.ok.hd hc) hl.isList (by rw [List.toList_toArray]; exact hr) (alike3 (t :: ts)) (by rw [List.map_cons] at dep; omega) (fun i v h' tk bs hv rd hk => ?_)
  have hv' : its[i]? = some v := by simpa using hv
  obtain ⟨cs, rc, hi, _⟩ := PySem.W.readsAll_at hr i v hv'
  have hi' : i < (t :: ts).length := by simpa using hi
  have ti : (t :: ts)[i]? = some ((t :: ts)[i]) := List.getElem?_eq_getElem hi'
  have e1 : ((t :: ts).map p3).getD i .none = p3 ((t :: ts)[i]) := by
    rw [List.getD_eq_getElem?_getD, List.getElem?_map, ti]
    rfl
  rw [e1] at rc
  have r1 := SeqAt.readOf_plain rfl (PySem.W.reads_keeps hk rc)
  have rd2 : Reads h' v (p3 (min3 t ts)) bs := by
    rw [← minD3]
    exact rd
  have r2 := SeqAt.readOf_plain rfl rd2
  have e2 := p3_inj (r1.symm.trans r2)
  have hlen := rv.length
  have hiv : i < vs.length := by
    have := (List.getElem?_eq_some_iff.mp hv').1
    omega
  obtain ⟨u, hu1, hu2⟩ := Vals.get rv (List.getElem?_eq_getElem hiv)
  rw [hv'] at hu1
  cases hu1
  exact ⟨vs[i], H, I.kept hk, hu2, q i _ (by rw [ti, e2]) (List.getElem?_eq_getElem hiv)⟩
def bMin3 : DB
  | [x], s => match (lqOf s x).bind of3s with
    | some (t :: ts) => .ok (d3 (min3 t ts)) s
    | _ => .stuck
  | _, _ => .stuck
section
variable {T : Tb}
theorem rps_at {F : Hp} {ι : List Addr} : ∀ {ds : List D} {vs : List V} {i : Nat} {d : D} {v : V}, Rps T F ι ds vs → ds[i]? = some d → vs[i]? = some v → Rp T F ι d v
  | [], vs, i, d, v, r, h, _ => by cases h
  | x :: xs, vs, i, d, v, r, h, k => by
    unfold Rps at r
    obtain ⟨u, us, rfl, r1, r2⟩ := r
    cases i with
    | zero => cases h; cases k; exact r1
    | succ i => exact rps_at r2 h k
theorem db_min3 : DenB T (rMin3 T.K) bMin3 := by
  intro ds vs H P ι F s Q E R r post
  rcases ds with _ | ⟨x, _ | ⟨y, w⟩⟩
  · exact post.elim
  · obtain ⟨v, rfl, h1⟩ := rps1 r
    unfold bMin3 at post
    dsimp only at post
    cases q : lqOf s x with
    | none => rw [q] at post; exact post.elim
    | some xs =>
      rw [q] at post
      cases h : of3s xs with
      | none => rw [Option.bind_some, h] at post; exact post.elim
      | some us =>
        rw [Option.bind_some, h] at post
        cases us with
        | nil => exact post.elim
        | cons t ts =>
          obtain ⟨a, us, rfl, h2, h3⟩ := lq_of R h1 q
          have e := of3s_ok h
          subst e
          refine ⟨a, us, t, ts, rfl, h2, dps_of R h3 (toPs3 _), fun i v hi hv => ?_⟩
          have hd : ((t :: ts).map d3)[i]? = some (d3 (min3 t ts)) := by rw [List.getElem?_map, hi]; rfl
          exact post.here R (rps_at h3 hd hv)
  · exact post.elim
end
/-! ### remove -/
def rRem3 (K : PySem.W.Frag) : V → List V → Hp → VK → Prop := fun x xs H Q => ∃ (l : Addr) (vs : List V) (y : V) (ts : List T3) (t : T3) (j : Nat), x = .ref l ∧ xs = [y] ∧ H l = some (.lst vs) ∧ DpAll K H vs (ts.map p3) ∧ Dp K H y (p3 t) ∧ ts.findIdx? (· == t) = some j ∧ Q .non (upd H l (.lst (vs.eraseIdx j)))
theorem eqv3 (a b : T3) : PyData.eqv (p3 a) (p3 b) = (a == b) := by
  obtain ⟨a1, a2, a3⟩ := a
  obtain ⟨b1, b2, b3⟩ := b
  have hs : ∀ x y : List Nat, (S x == S y) = (x == y) := fun x y => by
    rw [Bool.eq_iff_iff, beq_iff_eq, beq_iff_eq]
    exact ⟨S_inj, fun e => by rw [e]⟩
  show (PyData.eqvAll [.int a1, .str (S a2), .str (S a3)] [.int b1, .str (S b2), .str (S b3)]) = _
  simp only [PyData.eqvAll, PyData.eqv, Bool.and_true]
  rw [Bool.eq_iff_iff]
  simp
  intro _
  constructor
  · rintro ⟨h1, h2⟩
    exact ⟨S_inj h1, S_inj h2⟩
  · rintro ⟨rfl, rfl⟩
    exact ⟨rfl, rfl⟩
theorem place3 {t : T3} : ∀ ts : List T3, SeqAt.dataPlace (ts.map p3) (p3 t) = ts.findIdx? (· == t)
  | [] => rfl
  | u :: ts => by
    have ih := place3 (t := t) ts
    unfold SeqAt.dataPlace at ih ⊢
    rw [List.map_cons, List.findIdx?_cons, List.findIdx?_cons, eqv3, ih]
theorem mt_rem3 {X : Cx} (hu : X.A.units + 64 < cLine) : MtR X "list.remove" (rRem3 X.K) := by
  intro pins s σ H x xs v us Q I rx rxs h
  obtain ⟨l, vs, y, ts, t, j, rfl, rfl, hH, hd, hy, hj, q⟩ := h
  cases rx
  obtain ⟨u, rfl, ru⟩ := rxs.one
  obtain ⟨z, its, n, r, hl, e⟩ := I.lstM hH
  obtain ⟨bs, rd⟩ := Dp.reads I _ y u hy ru
  obtain ⟨as, ra⟩ := Dp.readsAll I _ vs its hd r
  have dep : (p3 t).depth = 1 := rfl
  refine SeqAt.remove_list_data (vs := its.toArray) ⟨_, e, rfl, n, rfl⟩ (by rw [List.toList_toArray]; exact ra) rd (plain3 ts) rfl (by rw [dep]; omega) (by rw [place3]; exact hj) (by rw [List.size_toArray]; omega) ?_
  refine ⟨.non, _, I.lset (its' := its.eraseIdx j) (t' := s.toks) hH e ?_ (r.eraseIdx j) ?_, rfl, q⟩
  · show its.toArray.eraseIdxIfInBounds j = (its.eraseIdx j).toArray
    rw [List.eraseIdxIfInBounds_toArray]
  · have : (vs.eraseIdx j).length ≤ vs.length := by rw [List.length_eraseIdx]; split <;> omega
    omega
def mRem3 : DM
  | .loc n, [y], s => match s[n]? with
    | some (.lst xs) => match of3s xs, of3 y with
      | some ts, some t => match ts.findIdx? (· == t) with
        | some j => .ok .non (s.set n (.lst (xs.eraseIdx j)))
        | none => .stuck
      | _, _ => .stuck
    | _ => .stuck
  | _, _, _ => .stuck
section
variable {T : Tb}
theorem Rps.erase {F : Hp} {ι : List Addr} : ∀ {ds : List D} {vs : List V} (j : Nat), Rps T F ι ds vs → Rps T F ι (ds.eraseIdx j) (vs.eraseIdx j)
  | [], vs, j, r => by unfold Rps at r; subst r; simpa using Rps.nil
  | x :: xs, vs, j, r => by
    unfold Rps at r
    obtain ⟨u, us, rfl, r1, r2⟩ := r
    cases j with
    | zero => exact r2
    | succ j =>
      show Rps T F ι (x :: xs.eraseIdx j) (u :: us.eraseIdx j)
      unfold Rps
      exact ⟨u, _, rfl, r1, Rps.erase j r2⟩
theorem dm_rem3 : DenM T (rRem3 T.K) mRem3 := by
  intro d ds v vs H P ι F s Q E R r rs post
  unfold mRem3 at post
  split at post
  · rename_i n y _
    obtain ⟨u, rfl, h1⟩ := rps1 rs
    unfold Rp at r
    obtain ⟨a, e1, rfl⟩ := r
    split at post
    · rename_i xs hs
      split at post
      · rename_i ts t k1 k2
        split at post
        · rename_i j hj
          obtain ⟨h2, us, h3, h4⟩ := lc_of R hs e1
          have ex := of3s_ok k1
          have ey := of3_ok k2
          subst ey
          refine ⟨a, us, u, ts, t, j, rfl, rfl, h3, ?_, dp_of R h1 (toP3 t), hj, ?_⟩
          · rw [ex] at h4
            exact dps_of R h4 (toPs3 ts)
          · exact post .non _ ι F (Grow.refl _ _) (R.setC hs rfl e1 ⟨h2, _, upd_same, h4.erase j⟩) (by unfold Rp; rfl)
        · exact post.elim
      · exact post.elim
    · exact post.elim
  · exact post.elim
end
end Mp
/-! # MpQ -/
namespace Mp
open PySem PySem.Spec PyProof.Rows L2
/-! ## x in xs, data of some depth -/
def rInX (K : PySem.W.Frag) (neg : Bool) : R2 := fun x y H Q => ∃ d ds, Dp K H x d ∧ (Dp K H y (.list ds) ∨ Dp K H y (.tuple ds)) ∧ SeqAt.shaped d = true ∧ SeqAt.shaped (.list ds) = true ∧ d.depth ≤ 8 ∧ Q (.bl (neg != ds.any fun z => PyData.eqv z d)) H
theorem op_inX {X : Cx} (hu : X.A.units + 64 < cLine) : OpR X (compareOp .In) (rInX X.K false) := by
  intro pins s σ H x y v u Q I rx ry h
  obtain ⟨d, ds, hd, he, sd, se, dd, q⟩ := h
  obtain ⟨as, r1⟩ := Dp.reads I d x v hd rx
  rw [Bool.false_bne] at q
  rcases he with he | he
  · obtain ⟨bs, r2⟩ := Dp.reads I (.list ds) y u he ry
    exact SeqAt.in_list_reads r2 r1 (SeqAt.canLay_of_shaped se) (SeqAt.canLay_of_shaped sd) (by omega) ⟨.bl _, H, I, rfl, q⟩
  · obtain ⟨bs, r2⟩ := Dp.reads I (.tuple ds) y u he ry
    exact SeqAt.in_tuple_reads r2 r1 (SeqAt.canLay_of_shaped se) (SeqAt.canLay_of_shaped sd) (by omega) ⟨.bl _, H, I, rfl, q⟩
theorem op_notInX {X : Cx} (hu : X.A.units + 64 < cLine) : OpR X (compareOp .NotIn) (rInX X.K true) := by
  intro pins s σ H x y v u Q I rx ry h
  obtain ⟨d, ds, hd, he, sd, se, dd, q⟩ := h
  obtain ⟨as, r1⟩ := Dp.reads I d x v hd rx
  rw [Bool.true_bne] at q
  rcases he with he | he
  · obtain ⟨bs, r2⟩ := Dp.reads I (.list ds) y u he ry
    exact SeqAt.notIn_list_reads r2 r1 (SeqAt.canLay_of_shaped se) (SeqAt.canLay_of_shaped sd) (by omega) ⟨.bl _, H, I, rfl, q⟩
  · obtain ⟨bs, r2⟩ := Dp.reads I (.tuple ds) y u he ry
    exact SeqAt.notIn_tuple_reads r2 r1 (SeqAt.canLay_of_shaped se) (SeqAt.canLay_of_shaped sd) (by omega) ⟨.bl _, H, I, rfl, q⟩
def sqD (s : Sto) : D → Option (List D)
  | .tup ys => some ys
  | y => lqOf s y
def oInX (neg : Bool) : DOp := fun x y s => match toP x, (sqD s y).bind toPs with
  | some d, some ds => if (SeqAt.shaped d && (SeqAt.shaped (.list ds) && decide (d.depth ≤ 8))) = true then .ok (.bl (neg != ds.any fun z => PyData.eqv z d)) s else .stuck
  | _, _ => .stuck
section
variable {T : Tb}
theorem do_inX {neg : Bool} : DenOp T (rInX T.K neg) (oInX neg) := by
  intro v u x y H P ι F s Q E R rx ry post
  unfold oInX at post
  cases h1 : toP x with
  | none => rw [h1] at post; exact post.elim
  | some d =>
    cases h2 : (sqD s y).bind toPs with
    | none => rw [h1, h2] at post; exact post.elim
    | some ds =>
      rw [h1, h2] at post
      dsimp only at post
      split at post
      · rename_i hc
        simp only [Bool.and_eq_true, decide_eq_true_eq] at hc
        refine ⟨d, ds, dp_of R rx h1, ?_, hc.1, hc.2.1, hc.2.2, post.here R (by unfold Rp; rfl)⟩
        cases q : sqD s y with
        | none => rw [q] at h2; cases h2
        | some ys =>
          rw [q] at h2
          have h3 : toPs ys = some ds := h2
          cases y with
          | tup zs =>
            cases q
            obtain ⟨a, vs, rfl, e1, e2, e3⟩ := tp_of R ry
            exact .inr (.tup (SqT.of e1) (dps_of R e3 h3))
          | _ =>
            first
              | (obtain ⟨a, vs, rfl, e1, e2⟩ := lq_of R ry q; exact .inl (.lst e1 (dps_of R e2 h3)))
              | cases q
      · exact post.elim
end
section
variable {s : Sto}
theorem any_eqv {n m : Nat} {x : D} {d : PyData} (hx : datD m x = true) (ex : toP x = some d) : ∀ {ys : List D} {ds : List PyData}, datDs n ys = true → toPs ys = some ds → (ds.any fun z => PyData.eqv z d) = ys.any fun z => eqD z x
  | [], ds, _, e => by cases e; rfl
  | y :: ys, ds, h, e => by
    have h' : (datD n y && datDs n ys) = true := h
    rw [Bool.and_eq_true] at h'
    unfold toPs at e
    cases h3 : toP y with
    | none => rw [h3] at e; cases e
    | some p =>
      cases h4 : toPs ys with
      | none => rw [h3, h4] at e; cases e
      | some ps =>
        rw [h3, h4] at e
        cases e
        rw [List.any_cons, List.any_cons, eqv_ok h'.1 hx h3 ex, any_eqv hx ex h'.2 h4]
theorem toPs_lst {ys : List D} {p : PyData} (h : toP (.lst ys) = some p) : ∃ ps, toPs ys = some ps ∧ p = .list ps := by
  unfold toP at h
  cases q : toPs ys with
  | none => rw [q] at h; cases h
  | some ps => rw [q] at h; cases h; exact ⟨ps, rfl, rfl⟩
theorem oInX_ok {neg : Bool} {x y : D} {ys : List D} (hx : datD 8 x = true) (hy : datDs 63 ys = true) (hs : sqD s y = some ys) : oInX neg x y s = .ok (.bl (neg != ys.any fun z => eqD z x)) s := by
  obtain ⟨d, h1, h2, h3⟩ := dat_ok hx
  obtain ⟨q, h4, h5, h6⟩ := dat_ok (x := .lst ys) (n := 64) hy
  obtain ⟨ps, h7, rfl⟩ := toPs_lst h4
  unfold oInX
  rw [h1, hs, Option.bind_some, h7]
  dsimp only
  rw [shaped_of h2 (by omega), shaped_of h5 h6, decide_eq_true (show d.depth ≤ 8 from h3), any_eqv hx h1 hy h7]
  rfl
end
/-! ## dict(list of pairs) -/
def dctF : List D → List D → List D → Option (List D × List D)
  | [], ks, xs => some (ks, xs)
  | .tup [k, v] :: r, ks, xs => match keyD k with
    | some _ => dctF r (setK k ks) (setD k v ks xs)
    | none => none
  | _ :: _, _, _ => none
def bDictP : DB
  | [x], s => match (lqOf s x).bind fun ds => dctF ds [] [] with
    | some (ks, xs) => .ok (.loc s.length) (s ++ [.dct ks xs])
    | none => .stuck
  | _, _ => .stuck
def rDictP (K : PySem.W.Frag) : List V → Hp → VK → Prop := fun xs H Q => ∃ (a : Addr) (ps : List Addr) (kvs : List (Key × V)), xs = [.ref a] ∧ SqL K H a (ps.map V.ref) ∧ Paired (fun p kv => SqT K H p [kV kv.1, kv.2]) ps kvs ∧ ∀ p, H p = none → Q (.ref p) (upd H p (.dK (mergeK [] kvs)))
theorem call_dictX {X : Cx} (hc : X.calm = true) : CallR X (.type "dict") (rDictP X.K) := call_dictP hc
section
variable {T : Tb}
theorem dctF_ok {P : Hp} {ι : List Addr} {F : Hp} {s : Sto} {H : Hp} (R : RelH T P ι F s H) : ∀ {ds : List D} {vs : List V} {kvs0 : List (Key × V)} {xs0 ks xs : List D}, Rps T F ι ds vs → Rps T F ι xs0 (kvs0.map (·.2)) → dctF ds (kvs0.map fun p => kD p.1) xs0 = some (ks, xs) →
    ∃ (ps : List Addr) (kvs : List (Key × V)), vs = ps.map V.ref ∧ Paired (fun p kv => SqT T.K H p [kV kv.1, kv.2]) ps kvs ∧ ks = (mergeK kvs0 kvs).map (fun p => kD p.1) ∧ Rps T F ι xs ((mergeK kvs0 kvs).map (·.2))
  | [], vs, kvs0, xs0, ks, xs, r, r0, h => by
    unfold Rps at r
    subst r
    unfold dctF at h
    cases h
    exact ⟨[], [], rfl, .nil, rfl, r0⟩
  | d :: ds, vs, kvs0, xs0, ks, xs, r, r0, h => by
    unfold Rps at r
    obtain ⟨u, us, rfl, r1, r2⟩ := r
    unfold dctF at h
    split at h
    · rename_i heq; cases heq
    · rename_i k v r' heq
      cases heq
      split at h
      · rename_i key hk
        obtain ⟨a, vs, rfl, h1, _, h3⟩ := tp_of R r1
        unfold Rps at h3
        obtain ⟨w1, ws, rfl, q1, h3⟩ := h3
        unfold Rps at h3
        obtain ⟨w2, ws, rfl, q2, h3⟩ := h3
        unfold Rps at h3
        subst h3
        have e := key_of' q1 hk
        subst e
        obtain ⟨p1, p2⟩ := put_valV hk q2 r0
        rw [p1] at h
        obtain ⟨ps, kvs, rfl, g1, g2, g3⟩ := dctF_ok R r2 p2 h
        exact ⟨a :: ps, (key, w2) :: kvs, rfl, .cons (SqT.of h1) g1, g2, g3⟩
      · cases h
    · cases h
theorem db_dictP : DenB T (rDictP T.K) bDictP := by
  intro ds vs H P ι F s Q E R r post
  rcases ds with _ | ⟨x, _ | ⟨y, w⟩⟩
  · exact post.elim
  · obtain ⟨v, rfl, h1⟩ := rps1 r
    unfold bDictP at post
    dsimp only at post
    cases q : lqOf s x with
    | none => rw [q] at post; exact post.elim
    | some xs =>
      rw [q, Option.bind_some] at post
      cases h : dctF xs [] [] with
      | none => rw [h] at post; exact post.elim
      | some kx =>
        obtain ⟨ks, ys⟩ := kx
        rw [h] at post
        dsimp only at post
        obtain ⟨a, us, rfl, h2, h3⟩ := lq_of R h1 q
        obtain ⟨ps, kvs, rfl, g1, g2, g3⟩ := dctF_ok R (kvs0 := []) h3 (by unfold Rps; rfl) h
        refine ⟨a, ps, kvs, rfl, h2, g1, fun p hp => post_loc post R hp ?_⟩
        exact ⟨R.freeF hp, _, upd_same, g2, g3.mono (grow_app _ _ _)⟩
  · exact post.elim
end
/-! ## list(range(a, b)) -/
def dListR2 (f g : DE) : DE := fun δ s => (f δ s).bind fun x s1 => (g δ s1).bind fun y s2 => match x, y with
  | .int a, .int b => if 0 ≤ a ∧ a ≤ 1000 ∧ 0 ≤ b ∧ b ≤ 1000 then .ok (.lst (intsD a (b - a).toNat)) s2 else .stuck
  | _, _ => .stuck
section
variable {T : Tb} {X : Cx}
theorem rps_rg2 {F : Hp} {ι : List Addr} (a b : Int) : Rps T F ι (intsD a (b - a).toNat) (rgV a b) := by
  have := rps_ints (T := T) (F := F) (ι := ι) ((List.range (b - a).toNat).map fun (i : Nat) => a + (i : Int))
  rw [List.map_map, List.map_map] at this
  exact this
theorem d_listR2 {a b : Expr} {f g : DE} {p p2 q pos : Pos} (hm : X.mg "list" = none) (hm2 : X.mg "range" = none) (ha : PDe T X a f) (hb : PDe T X b g) (hg : Gl X "list" := by rfl) (hg2 : Gl X "range" := by rfl) (hc : X.calm = true := by rfl)
    (na : starEach [a, b] X.env = (false, eval a X.env) :: starEach [b] X.env := by rfl) (nb : starEach [b] X.env = (false, eval b X.env) :: starEach [] X.env := by rfl) (hp : (backTo q (starEach [b] X.env)).any (·.1) = false := by rfl)
    (na2 : starEach [Expr.Call (.Name "range" p2) [a, b] [] q] X.env = (false, eval (Expr.Call (.Name "range" p2) [a, b] [] q) X.env) :: starEach [] X.env := by rfl) :
    PDe T X (.Call (.Name "list" p) [.Call (.Name "range" p2) [a, b] [] q] [] pos) (dListR2 f g) := fun pn xe W tk => by
  obtain ⟨t1, p1, d1⟩ := ha pn xe W tk
  obtain ⟨t2, p2', d2⟩ := hb pn xe W tk
  refine ⟨_, pe_listRg (X := X.tr pn xe) hc hg hm (prg_2 hg2 hm2 p1 p2' na nb hp) na2, fun σ H P ι F δ s Q R E post => ?_⟩
  show t1 σ H _
  refine den_then d1 R E post fun x v H1 ι1 F1 s1 g1 R1 E1 r1 post1 => ?_
  refine den_then d2 R1 E1 post1 fun y w H2 ι2 F2 s2 g2 R2 E2 r2 post2 => ?_
  split at post2
  · rename_i i j
    have r1' := r1.mono g2
    unfold Rp at r1' r2
    subst r1' r2
    split at post2
    · rename_i hn
      refine ⟨i, j, rfl, rfl, RgOk.of_le (by omega) (by omega) (by omega) (by omega), fun l hl => ?_⟩
      refine post2.new R2 hl fun gg => ?_
      unfold Rp
      exact ⟨l, _, rfl, upd_same, rps_rg2 i j⟩
    · exact post2.elim
  · exact post2.elim
end
/-! ## xs = [.. for x in o], o a list cell -/
section
variable {T : Tb} {X : Cx}
theorem den_lcA {W : WX} {t1 : TE} {f : DE} {ws vs0 : List Nat} {t : DTg} {c : DT} {e : DE} (d1 : DenG T (Rp T) W t1 f) (hs : ∀ i ∈ ws, i ∈ vs0) : DenG T (Rp T) W (tLc (fun σ H R => (iList T.K t1 σ H R ∨ iTup T.K t1 σ H R) ∨ iStr t1 σ H R) (canT T ws t) (canE T eqR W0 c) (canE T (Rp T) W0 e) vs0) (dLcA f t c e vs0) := fun σ H P ι F δ s Q R E post => by
  have post0 : Post T P (Rp T) Q (fun c H' => W (.ref (T.ca c)) none σ H') F ι ((f δ s).bind fun x s1 => match itCel x s1 with
    | some (ds, s2, h) => backO h (lcL t c e (wipeE δ vs0) ds [] s2)
    | none => .stuck) := post
  cases ef : f δ s with
  | stuck => rw [ef] at post0; exact post0.elim
  | exc k s1 =>
    rw [ef] at post0
    refine .inl (.inl ?_)
    show t1 σ H _
    refine d1 σ H P ι F δ s _ R E ?_
    rw [ef]
    exact fun H' ι' F' g R' => post0 H' ι' F' g R'
  | ok x s1 =>
    rw [ef] at post0
    have run : ∀ {G : V → Hp → Prop}, (∀ v H' ι' F', Grow F ι F' ι' → RelH T P ι' F' s1 H' → Rp T F' ι' x v → G v H') → t1 σ H G := fun {G} h => by
      refine d1 σ H P ι F δ s G R E ?_
      rw [ef]
      exact h
    cases x with
    | lst xs =>
      refine .inl (.inl ?_)
      show t1 σ H _
      refine run fun v H1 ι1 F1 g1 R1 r1 => ?_
      unfold Rp at r1
      obtain ⟨a, vs, rfl, h1, h2⟩ := r1
      exact ⟨a, rfl, ⟨vs, SqL.of (R1.sub _ _ h1)⟩, lc_run hs ((walks_list (SqL.of h1) h2).toP P) R1 (E.mono g1) (Post.mono g1 post0)⟩
    | scr ns =>
      refine .inl (.inl ?_)
      show t1 σ H _
      refine run fun v H1 ι1 F1 g1 R1 r1 => ?_
      unfold Rp at r1
      obtain ⟨a, rfl, h1⟩ := r1
      exact ⟨a, rfl, ⟨_, sql_mono R1.sub h1⟩, lc_run hs ((walks_list h1 (rps_ints ns)).toP P) R1 (E.mono g1) (Post.mono g1 post0)⟩
    | tup xs =>
      refine .inl (.inr ?_)
      show t1 σ H _
      refine run fun v H1 ι1 F1 g1 R1 r1 => ?_
      obtain ⟨a, vs, rfl, h1, h0, h2⟩ := tp_of R1 r1
      exact ⟨a, rfl, ⟨vs, SqT.of h1⟩, lc_run hs ((walks_tup h0 h2).toP P) R1 (E.mono g1) (Post.mono g1 post0)⟩
    | str z =>
      refine .inr ?_
      show t1 σ H _
      refine run fun v H1 ι1 F1 g1 R1 r1 => ?_
      unfold Rp at r1
      exact ⟨S z, r1, lc_run hs ((walks_str z).toP P) R1 (E.mono g1) (Post.mono g1 post0)⟩
    | loc n =>
      refine .inl (.inl ?_)
      show t1 σ H _
      refine run fun v H1 ι1 F1 g1 R1 r1 => ?_
      have post1 : Post T P (Rp T) Q (fun c H' => W (.ref (T.ca c)) none σ H') F ι (match itCel (.loc n) s1 with
        | some (ds, s2, h) => backO h (lcL t c e (wipeE δ vs0) ds [] s2)
        | none => .stuck) := post0
      unfold Rp at r1
      obtain ⟨a, e1, rfl⟩ := r1
      unfold itCel at post1
      dsimp only at post1
      cases hs1 : s1[n]? with
      | none => rw [hs1] at post1; exact post1.elim
      | some cl =>
        rw [hs1] at post1
        cases cl with
        | lst xs =>
          obtain ⟨vs, h1, h2, h3, h4, R2⟩ := R1.hold hs1 e1
          exact ⟨a, rfl, ⟨vs, SqL.of h1⟩, lc_run hs (walksP_cell (P := upd P a (.lst vs)) upd_same h2) R2 (E.mono g1) (post_back h4 e1 h2 (Post.mono g1 post1))⟩
        | _ => exact post1.elim
    | _ => exact post0.elim

theorem s_setLcA {elt tg iter : Expr} {ifs : List Expr} {scope : Scope} {own : List (Str × Nat)} {pos spos py : Pos} {y : Str} {f : DE} {ws : List Nat} {t : DTg} {c : DT} {e : DE} (i : Nat) (hN : X.N.Nodup) (hi : PDe T X iter f) (ok : BlkOk X.N X.env.scope scope own)
    (hg : ∀ (s : Shared) (H : Hp) (C : Addr) (cl : List (Str × Addr)) (fp : List Addr), PDg T (Blk X scope s H C cl fp) tg ws t) (ht : ∀ (s : Shared) (H : Hp) (C : Addr) (cl : List (Str × Addr)) (fp : List Addr), PDts T (Blk X scope s H C cl fp) ifs c)
    (he : ∀ (s : Shared) (H : Hp) (C : Addr) (cl : List (Str × Addr)) (fp : List Addr), PDe T (Blk X scope s H C cl fp) elt e) (hsw : swapsWith (.ListComp elt [⟨tg, iter, ifs, 0⟩] scope pos) (some (.Name y py)) spos.line X.env = pure true)
    (hy : X.N[i]? = some y := by rfl) (hyl : X.env.scope.names.lookup y = some .local := by rfl) (hs : ∀ i ∈ ws, i ∈ own.map (·.2) := by decide) (hf : ∀ x, foldedSetIterable iter X.env x = pure x := by intro _; rfl) (hc : X.calm = true := by rfl) (hK : X.K = T.K := by rfl) :
    PDs T X (.Assign [.Name y py] (.ListComp elt [⟨tg, iter, ifs, 0⟩] scope pos) spos) (sSet i (dLcA f t c e (own.map (·.2)))) := fun pn xe W tk _ => by
  obtain ⟨t1, p1, d1⟩ := hi pn xe W tk
  have hK' : (X.tr pn xe).K = T.K := hK
  have wi : PI (X.tr pn xe) tg iter (fun σ H R => (iList T.K t1 σ H R ∨ iTup T.K t1 σ H R) ∨ iStr t1 σ H R) := by
    have := PI.or (PI.or (pi_list (X := X.tr pn xe) (tg := tg) p1) (pi_tup p1)) (pi_str p1)
    rw [hK'] at this
    exact this
  refine ⟨_, ps_setLc (X := X.tr pn xe) (i := i) (own := own) hc hN hy hyl hsw wi ok (g := canT T ws t) (tt := canE T eqR W0 c) (te := canE T (Rp T) W0 e) (fun s H C cl fp => ?_) (fun s H C cl fp => ?_) (fun s H C cl fp => ?_) hf, fun En σ H P ι F δ s R E post => ?_⟩
  · obtain ⟨g, p, d⟩ := hg s H C cl fp [] (fun _ _ => False)
    exact PG.weak p fun v σ H Q q => d.can q
  · obtain ⟨g, p, d⟩ := ht s H C cl fp
    exact PTs.weak p fun σ H Q q => d.can q
  · obtain ⟨g, p, d⟩ := he s H C cl fp [] (fun _ _ => False) W0 takes0
    exact PE.weak p fun σ H Q q => d.can q
  · have dl : DenG T (Rp T) W _ _ := den_lcA (T := T) (c := c) (e := e) (t := t) d1 hs
    refine dens_then dl R E post fun x v H1 ι1 F1 s1 g R1 E1 r1 post1 => ?_
    exact post1 _ H1 ι1 F1 (Grow.refl _ _) R1 (E1.set r1 i)
end
section
variable {δ : Env} {s : Sto}
@[simp] theorem dListR2_eq {f g : DE} : dListR2 f g δ s = (f δ s).bind fun x s1 => (g δ s1).bind fun y s2 => match x, y with
  | .int a, .int b => if 0 ≤ a ∧ a ≤ 1000 ∧ 0 ≤ b ∧ b ≤ 1000 then .ok (.lst (intsD a (b - a).toNat)) s2 else .stuck
  | _, _ => .stuck := rfl
@[simp] theorem sqD_tup {ys : List D} : sqD s (.tup ys) = some ys := rfl
@[simp] theorem sqD_lst {ys : List D} : sqD s (.lst ys) = some ys := rfl
@[simp] theorem sqD_loc {n : Nat} : sqD s (.loc n) = match s[n]? with
  | some (.lst xs) => some xs
  | _ => none := rfl
end
end Mp
/-! # MpR -/
namespace Mp
open PySem PySem.Spec PyProof.Rows L2
/-! ## a list, so many times, as a cell -/
def oMulC : DOp
  | x, .int k, s => match lsOf s x with
    | some xs => if xs.length * k.toNat ≤ lim ∧ -(2 ^ 62) ≤ k ∧ k < 2 ^ 62 then .ok (.loc s.length) (s ++ [.lst (List.replicate k.toNat xs).flatten]) else .stuck
    | none => .stuck
  | _, _, _ => .stuck
section
variable {T : Tb}
theorem do_mulC : DenOp T rMulA oMulC := by
  intro x y dx dy H P ι F s Q E R rx ry post
  unfold oMulC at post
  split at post
  · split at post
    · rename_i xs hx
      split at post
      · rename_i hl
        obtain ⟨p, vs, rfl, e1, e2⟩ := ls_of R rx hx
        unfold Rp at ry
        refine .inr ⟨p, _, vs, rfl, ry, e1, by omega, by omega, by rw [← e2.len]; exact lim_le hl.1, fun l hp => post_loc post R hp ?_⟩
        exact ⟨R.freeF hp, _, upd_same, (rps_rep e2 _).mono (grow_app _ _ _)⟩
      · exact post.elim
    · exact post.elim
  · exact post.elim
end
/-! ## a list of cells stays as it is from now on -/
def frzAll : List D → Sto → Option (List D × Sto)
  | [], s => some ([], s)
  | d :: r, s => match frzD s d with
    | some (d', s1) => match frzAll r s1 with
      | some (r', s2) => some (d' :: r', s2)
      | none => none
    | none => none
def sFrzN (i : Nat) : DS := fun δ s => match δ[i]? with
  | some (some (.lst ds)) => match frzAll ds s with
    | some (ds', s') => .nx (δ.set i (some (.lst ds'))) s'
    | none => .nx δ s
  | _ => .nx δ s
section
variable {T : Tb} {X : Cx}
theorem frzAll_ok {P : Hp} {ι : List Addr} {H : Hp} : ∀ {ds ds' : List D} {vs : List V} {F : Hp} {s s' : Sto}, RelH T P ι F s H → Rps T F ι ds vs → frzAll ds s = some (ds', s') → ∃ F', Grow F ι F' ι ∧ RelH T P ι F' s' H ∧ Rps T F' ι ds' vs
  | [], ds', vs, F, s, s', R, r, h => by
    unfold frzAll at h
    cases h
    exact ⟨F, Grow.refl _ _, R, r⟩
  | d :: ds, ds', vs, F, s, s', R, r, h => by
    unfold Rps at r
    obtain ⟨v, us, rfl, r1, r2⟩ := r
    unfold frzAll at h
    split at h
    · rename_i d' s1 h1
      split at h
      · rename_i r' s2 h2
        cases h
        obtain ⟨F1, g1, R1, q1⟩ := frz_ok R r1 h1
        obtain ⟨F2, g2, R2, q2⟩ := frzAll_ok R1 (r2.mono g1) h2
        refine ⟨F2, g1.trans g2, R2, ?_⟩
        unfold Rps
        exact ⟨v, us, rfl, q1.mono g2, q2⟩
      · cases h
    · cases h
theorem b_frzN {rest : List Stmt} {g : DS} (i : Nat) (h : PDb T X rest g) : PDb T X rest (sSeq (sFrzN i) g) := fun pn xe W tk ow => by
  obtain ⟨t1, p1, d1⟩ := h pn xe W tk ow
  refine ⟨t1, p1, fun En σ H P ι F δ s R E post => ?_⟩
  have same : sFrzN i δ s = .nx δ s → t1 En σ H := fun e => by
    unfold sSeq at post
    rw [e] at post
    exact d1 _ _ _ _ _ _ _ _ R E post
  cases q : δ[i]? with
  | none => exact same (by unfold sFrzN; rw [q])
  | some o =>
    cases o with
    | none => exact same (by unfold sFrzN; rw [q])
    | some d =>
      cases d with
      | lst ds =>
        cases hz : frzAll ds s with
        | none => exact same (by unfold sFrzN; rw [q]; dsimp only; rw [hz])
        | some z =>
          obtain ⟨ds', s'⟩ := z
          have e : sFrzN i δ s = .nx (δ.set i (some (.lst ds'))) s' := by unfold sFrzN; rw [q]; dsimp only; rw [hz]
          unfold sSeq at post
          rw [e] at post
          obtain ⟨v, e1, e2⟩ := E.at_ i _ q
          unfold Rp at e2
          obtain ⟨a, vs, rfl, h1, h2⟩ := e2
          obtain ⟨F', g', R', r'⟩ := frzAll_ok R h2 hz
          have rv : Rp T F' ι (.lst ds') (.ref a) := by
            unfold Rp
            exact ⟨a, vs, rfl, g'.1 _ _ h1, r'⟩
          have E' := (E.mono g').set rv i
          have hl := (List.getElem?_eq_some_iff.mp e1).1
          have es : σ.set i (some (.ref a)) = σ := by
            refine List.ext_getElem? fun j => ?_
            by_cases c : i = j
            · subst c; rw [List.getElem?_set_self hl, e1]
            · rw [List.getElem?_set_ne c]
          rw [es] at E'
          exact d1 _ _ _ _ _ _ _ _ R' E' (PostS.mono g' post)
      | _ => exact same (by unfold sFrzN; rw [q])
end
/-! ## for .. in zip(o, o2), o a list cell -/
section
variable {T : Tb}
theorem walksP_zip {P F : Hp} {ι : List Addr} {a b : Addr} {vs us : List V} {ds es : List D} (h : P a = some (.lst vs)) (h' : F b = some (.lst us)) (r : Rps T F ι ds vs) (r' : Rps T F ι es us) : WalksP T (Itz T.K a b) (zipD ds es) P F ι := by
  have w : L2.Walk (Itz T.K a b) (min vs.length us.length) (fun H => SqL T.K H a vs ∧ SqL T.K H b us) (YPair (fun i => vs[i]?) (fun i => us[i]?)) := walk_zip rfl
  unfold WalksP
  rw [zipD_len, r.len, r'.len]
  refine w.mono (fun H hF => ⟨SqL.of (hF.2 _ _ h), SqL.of (hF.1 _ _ h')⟩) fun i H x H' hi hF y => ?_
  obtain ⟨p, v, u, e1, e2, e3, e4, e5⟩ := y
  have hi1 : i < ds.length := by rw [r.len]; omega
  have hi2 : i < es.length := by rw [r'.len]; omega
  obtain ⟨d, hd⟩ := get_lt hi1
  obtain ⟨e, he⟩ := get_lt hi2
  obtain ⟨v', h1, h2⟩ := r.get hd
  obtain ⟨u', h3, h4⟩ := r'.get he
  have e4' : vs[i]? = some v := e4
  have e5' : us[i]? = some u := e5
  rw [e4'] at h1
  rw [e5'] at h3
  cases h1
  cases h3
  exact ⟨_, zipD_at hd he, .inr ⟨p, [v, u], [d, e], e1, e2, e3, rfl, .cons h2 (.cons h4 .nil)⟩⟩
def zRun (t : DTg) (body : DS) (δ : Env) (xs : List D) (s1 : Sto) : Out := match xs with
  | [.lst a, .lst b] => forL t body (zipD a b) δ s1
  | [.loc n, .lst b] => match s1[n]? with
    | some (.lst a) => (forL t body (zipD a b) δ (s1.set n .dead)).back n a
    | _ => .stuck
  | _ => .stuck
def sForZ (fa : DA) (t : DTg) (body : DS) : DS := fun δ s => (fa δ s).out δ fun xs s1 => zRun t body δ xs s1
theorem s_forZ {X : Cx} {e e2 : Expr} {p pos tpos fpos : Pos} {elts : List Expr} {kk : Nat} {body : List Stmt} {f : DA} {ws : List Nat} {t : DTg} {g : DS} (hm : X.mg "zip" = none) (ha : PDa T X [e, e2] f) (hg : PDg T X (.Tuple elts kk tpos) ws t) (hb : PDb T X body g) (hgl : Gl X "zip" := by rfl)
    (hs : starEach [e, e2] X.env = (false, eval e X.env) :: starEach [e2] X.env := by rfl) (hpl : (backTo pos (starEach [e2] X.env)).any (·.1) = false := by rfl) (hc : X.calm = true := by rfl) (hfs : ∀ x, foldedSetIterable (.Call (.Name "zip" p) [e, e2] [] pos) X.env x = pure x := by intro _; rfl) (hK : X.K = T.K := by rfl) :
    PDs T X (.For (.Tuple elts kk tpos) (.Call (.Name "zip" p) [e, e2] [] pos) body [] fpos) (sForZ f t g) := fun pn xe W tk ow => by
  obtain ⟨t1, p1, d1⟩ := ha pn xe W tk
  obtain ⟨g1, p2, d2⟩ := hg pn xe
  obtain ⟨tb, p3, d3⟩ := hb pn xe W tk ow
  have hK' : (X.tr pn xe).K = T.K := hK
  have wi := RZ.pi_zipA (X := X.tr pn xe) (p := p) (kk := kk) (tpos := tpos) (elts := elts) hgl hm p1 hs hpl
  rw [hK'] at wi
  refine ⟨_, ps_for (X := X.tr pn xe) ow hc wi p2 p3 hfs, fun En σ H P ι F δ s R E post => ?_⟩
  show t1 σ H _
  have post0 : PostS T P En W F ι ((f δ s).out δ fun xs s1 => zRun t g δ xs s1) := post
  refine d1 σ H P ι F δ s _ R E ?_
  cases e0 : f δ s with
  | stuck => rw [e0] at post0; exact post0.elim
  | exc k s1 =>
    rw [e0] at post0
    exact fun H' ι' F' g R' => post0 σ H' ι' F' g R' (E.mono g)
  | ok xs s1 =>
    rw [e0] at post0
    intro vs H1 ι1 F1 gr R1 r1
    have post1 : PostS T P En W F ι (zRun t g δ xs s1) := post0
    unfold zRun at post1
    split at post1
    · obtain ⟨v, u, rfl, h1, h2⟩ := rps2 r1.1
      unfold Rp at h1 h2
      obtain ⟨a, vs, rfl, h3, h4⟩ := h1
      obtain ⟨b, us, rfl, h5, h6⟩ := h2
      exact ⟨a, b, vs, us, rfl, .inl ⟨SqL.of (R1.sub _ _ h3), SqL.of (R1.sub _ _ h5), for_run d2 d3 ((walks_zip (SqL.of h3) (SqL.of h5) h4 h6).toP P) R1 (E.mono gr) (PostS.mono gr post1)⟩⟩
    · obtain ⟨v, u, rfl, h1, h2⟩ := rps2 r1.1
      unfold Rp at h1 h2
      obtain ⟨a, e1, rfl⟩ := h1
      obtain ⟨b, us, rfl, h5, h6⟩ := h2
      split at post1
      · rename_i as hs1
        obtain ⟨vs, q1, q2, q3, q4, R2⟩ := R1.hold hs1 e1
        exact ⟨a, b, vs, us, rfl, .inl ⟨SqL.of q1, SqL.of (R1.sub _ _ h5), for_run d2 d3 (walksP_zip (P := upd P a (.lst vs)) upd_same h5 q2 h6) R2 (E.mono gr) (posts_back q4 e1 q2 (PostS.mono gr post1))⟩⟩
      · exact post1.elim
    · exact post1.elim
end
section
variable {δ : Env} {s : Sto}
@[simp] theorem sForZ_eq {fa : DA} {t : DTg} {body : DS} : sForZ fa t body δ s = (fa δ s).out δ fun xs s1 => zRun t body δ xs s1 := rfl
theorem zRun_lst {t : DTg} {body : DS} {a b : List D} : zRun t body δ [.lst a, .lst b] s = forL t body (zipD a b) δ s := rfl
theorem zRun_loc {t : DTg} {body : DS} {a b : List D} {n : Nat} (h : s[n]? = some (.lst a)) : zRun t body δ [.loc n, .lst b] s = (forL t body (zipD a b) δ (s.set n .dead)).back n a := by
  unfold zRun
  dsimp only
  rw [h]
end
end Mp
/-! # the defs -/
namespace Rb
open PySem PySem.Spec L2 Mp
def top (i : Nat) : Stmt := PySem.Challenge.pw_roadbook_k11_minutes_on_foot.main.body.getD i (.Pass ⟨0, 0, 0, 0⟩)
def inClass (st : Stmt) (j : Nat) : Stmt := match st with
  | .ClassDef _ _ _ body .. => body.getD j (.Pass ⟨0, 0, 0, 0⟩)
  | _ => .Pass ⟨0, 0, 0, 0⟩
abbrev s_Net_stops : Stmt := inClass (top 34) 9
abbrev s_Net_walks : Stmt := inClass (top 34) 13
abbrev s_Feet___init__ : Stmt := inClass (top 21) 0
abbrev s_Feet_need : Stmt := inClass (top 21) 1
abbrev s_Feet_sought : Stmt := inClass (top 21) 2
abbrev s_Feet_led : Stmt := inClass (top 21) 3
abbrev s_Feet_minutes : Stmt := inClass (top 21) 4
abbrev s_Feet_way : Stmt := inClass (top 21) 5
abbrev s_is_among : Stmt := top 23
abbrev s_is_name : Stmt := top 30
abbrev s_need_fresh : Stmt := top 31
abbrev s_need_among : Stmt := top 32
abbrev s_need_room : Stmt := top 33
abbrev s_Net___init__ : Stmt := inClass (top 34) 0
abbrev s_Net_need_stop : Stmt := inClass (top 34) 1
abbrev s_Net_add_stop : Stmt := inClass (top 34) 4
abbrev s_Net_add_walk : Stmt := inClass (top 34) 5
abbrev s__law_draw : Stmt := top 36
abbrev s__law_word : Stmt := top 37
abbrev s__law_names : Stmt := top 38
abbrev s__law_walks : Stmt := top 39
abbrev s__law_net : Stmt := top 40
abbrev s__law_table : Stmt := top 41
abbrev s__law_way_right : Stmt := top 42
abbrev s__law_right : Stmt := top 43
abbrev s__law_refused : Stmt := top 44
abbrev s__law_goes_on : Stmt := top 45
abbrev s_law : Stmt := top 46
def caT (K : PySem.W.Frag) : Nat → Addr
  | 0 => He.ga K "RoadError"
  | 1 => He.ga K "BadClock"
  | 2 => He.ga K "BadRule"
  | 3 => He.ga K "TooMany"
  | 4 => He.ga K "BadName"
  | 5 => He.ga K "Twice"
  | 6 => He.ga K "NoStop"
  | 7 => He.ga K "NoRule"
  | 8 => He.ga K "NoTicket"
  | 9 => He.ga K "NoTrip"
  | 10 => He.ga K "BadNumber"
  | 11 => He.ga K "BadCalls"
  | 12 => He.ga K "NoRun"
  | 13 => He.ga K "TooLate"
  | 14 => He.ga K "NoTraveller"
  | 15 => He.ga K "BadLine"
  | 16 => He.ga K "BadRow"
  | 17 => He.ga K "NoPlan"
  | 18 => He.ga K "Feet"
  | 19 => He.ga K "Net"
  | _ => 0
def fmT : Nat → Str
  | 0 => "near"
  | 1 => "known"
  | 2 => "spots"
  | 3 => "paths"
  | 4 => "habits"
  | 5 => "passes"
  | 6 => "lines"
  | _ => ""
abbrev tb (K : PySem.W.Frag) : Tb := { K := K, ca := caT K, fm := fmT }
abbrev parT : List Nat := [0, 0, 0, 0, 0, 0, 0, 0, 0, 0, 0, 0, 0, 0, 0, 0, 0, 0]
abbrev n1T : Nat := 16
abbrev parA : List Nat := [0, 0, 0, 0, 0, 0, 0, 0, 0, 0, 0, 0, 0, 0, 0, 0, 0, 0, 18, 19]
abbrev csT : List Nat := [18, 19]
theorem nm_add_stop : ∀ i, i < 7 → fmT i ≠ "add_stop" := by decide +kernel
theorem nm_add_walk : ∀ i, i < 7 → fmT i ≠ "add_walk" := by decide +kernel
theorem nm_led : ∀ i, i < 7 → fmT i ≠ "led" := by decide +kernel
theorem nm_minutes : ∀ i, i < 7 → fmT i ≠ "minutes" := by decide +kernel
theorem nm_need : ∀ i, i < 7 → fmT i ≠ "need" := by decide +kernel
theorem nm_need_stop : ∀ i, i < 7 → fmT i ≠ "need_stop" := by decide +kernel
theorem nm_sought : ∀ i, i < 7 → fmT i ≠ "sought" := by decide +kernel
theorem nm_stops : ∀ i, i < 7 → fmT i ≠ "stops" := by decide +kernel
theorem nm_walks : ∀ i, i < 7 → fmT i ≠ "walks" := by decide +kernel
theorem nm_way : ∀ i, i < 7 → fmT i ≠ "way" := by decide +kernel
structure Txt (K : PySem.W.Frag) (mg : Str → Option Value) : Prop where
  f_ValueError : mg "ValueError" = none
  f_all : mg "all" = none
  f_bool : mg "bool" = none
  f_dict : mg "dict" = none
  f_enumerate : mg "enumerate" = none
  f_int : mg "int" = none
  f_isinstance : mg "isinstance" = none
  f_len : mg "len" = none
  f_list : mg "list" = none
  f_min : mg "min" = none
  f_range : mg "range" = none
  f_str : mg "str" = none
  f_zip : mg "zip" = none
  k_LETTERS : ∃ u, mg "LETTERS" = some u ∧ RelV (.str (S [97, 98, 99, 100, 101, 102, 103, 104, 105, 106, 107, 108, 109, 110, 111, 112, 113, 114, 115, 116, 117, 118, 119, 120, 121, 122])) u
  k_MOST_LETTERS : ∃ u, mg "MOST_LETTERS" = some u ∧ RelV (.int 8) u
  k_MOST_STOPS : ∃ u, mg "MOST_STOPS" = some u ∧ RelV (.int 8) u
  k_MOST_WALKS : ∃ u, mg "MOST_WALKS" = some u ∧ RelV (.int 12) u
  k_MOST_ZONE : ∃ u, mg "MOST_ZONE" = some u ∧ RelV (.int 6) u
  c_RoadError : mg "RoadError" = some (.ref (caT K 0))
  c_BadClock : mg "BadClock" = some (.ref (caT K 1))
  c_BadRule : mg "BadRule" = some (.ref (caT K 2))
  c_TooMany : mg "TooMany" = some (.ref (caT K 3))
  c_BadName : mg "BadName" = some (.ref (caT K 4))
  c_Twice : mg "Twice" = some (.ref (caT K 5))
  c_NoStop : mg "NoStop" = some (.ref (caT K 6))
  c_NoRule : mg "NoRule" = some (.ref (caT K 7))
  c_NoTicket : mg "NoTicket" = some (.ref (caT K 8))
  c_NoTrip : mg "NoTrip" = some (.ref (caT K 9))
  c_BadNumber : mg "BadNumber" = some (.ref (caT K 10))
  c_BadCalls : mg "BadCalls" = some (.ref (caT K 11))
  c_NoRun : mg "NoRun" = some (.ref (caT K 12))
  c_TooLate : mg "TooLate" = some (.ref (caT K 13))
  c_NoTraveller : mg "NoTraveller" = some (.ref (caT K 14))
  c_BadLine : mg "BadLine" = some (.ref (caT K 15))
  c_BadRow : mg "BadRow" = some (.ref (caT K 16))
  c_NoPlan : mg "NoPlan" = some (.ref (caT K 17))
  c_Feet : mg "Feet" = some (.ref (caT K 18))
  c_Net : mg "Net" = some (.ref (caT K 19))
  xt : ExT K (caT K) parT n1T
  ob : ObT K (caT K) fmT csT 7
  ki : KiT K (caT K) parA csT
/-! ### Net.stops -/
abbrev N_Net_stops : List Str := ["self"]
def g_Net_stops : DS :=
  (sRet (dBi bListA (aCons (dFld csT 7 2 (dVar 0)) aNil)))
def f_Net_stops : List D → Sto → Res D := mkF 1 1 g_Net_stops
theorem sc_Net_stops : FnScope N_Net_stops ["self"] (defScope s_Net_stops) := ⟨rfl, rfl, rfl, by decide +kernel, rfl, by decide +kernel, by decide +kernel⟩
section
variable {P : Program} {w : World} {K : PySem.W.Frag} {mg : Str → Option Value} {base : Heap}
theorem b_Net_stops (Tx : Txt K mg)  {f : Addr} (cdv : Value) (A : Around) (outer : List PySem.Env) (s : Shared) (H : Hp) (E : XK) (hr : Room 0 (A.deeper (PyProof.Rows.envOfC "Net.stops" (defScope s_Net_stops) s.heap.objs.size f cdv))) : PDb (tb K) (cxOf (L2.CX P w) P w (tb K).K mg base N_Net_stops "Net.stops" (defScope s_Net_stops) f cdv A outer s H E) (defBody s_Net_stops) (g_Net_stops) :=
  (b_one (s_ret (d_callT (fun _ _ => call_listA rfl) db_listA Tx.f_list (by decide +kernel) (a_cons (d_fld 2 Tx.ob (d_var 0)) a_nil))))
end
/-! ### Net.walks -/
abbrev N_Net_walks : List Str := ["self"]
def g_Net_walks : DS :=
  (sRet (dBi bList (aCons (dFld csT 7 3 (dVar 0)) aNil)))
def f_Net_walks : List D → Sto → Res D := mkF 1 1 g_Net_walks
theorem sc_Net_walks : FnScope N_Net_walks ["self"] (defScope s_Net_walks) := ⟨rfl, rfl, rfl, by decide +kernel, rfl, by decide +kernel, by decide +kernel⟩
section
variable {P : Program} {w : World} {K : PySem.W.Frag} {mg : Str → Option Value} {base : Heap}
theorem b_Net_walks (Tx : Txt K mg)  {f : Addr} (cdv : Value) (A : Around) (outer : List PySem.Env) (s : Shared) (H : Hp) (E : XK) (hr : Room 0 (A.deeper (PyProof.Rows.envOfC "Net.walks" (defScope s_Net_walks) s.heap.objs.size f cdv))) : PDb (tb K) (cxOf (L2.CX P w) P w (tb K).K mg base N_Net_walks "Net.walks" (defScope s_Net_walks) f cdv A outer s H E) (defBody s_Net_walks) (g_Net_walks) :=
  (b_one (s_ret (d_callT (fun _ _ => call_list_of) db_list Tx.f_list (by decide +kernel) (a_cons (d_fld 3 Tx.ob (d_var 0)) a_nil))))
end
/-! ### Feet.__init__ -/
abbrev N_Feet___init__ : List Str := ["self", "net", "one", "other", "minutes", "stop"]
def g_Feet___init___b1 : DS :=
  (sSeq (sDrop (dMt "list" mAppend (dDix (dFld csT 7 0 (dVar 0)) (dVar 2)) (aCons (dTup (aCons (dVar 3) (aCons (dVar 4) aNil))) aNil)))
    (sDrop (dMt "list" mAppend (dDix (dFld csT 7 0 (dVar 0)) (dVar 3)) (aCons (dTup (aCons (dVar 2) (aCons (dVar 4) aNil))) aNil))))
def g_Feet___init__ : DS :=
  (sSeq (sFldS csT 7 0 (dBi bDictP (aCons (dLc (itAny (dMeth 7 [(19, f_Net_stops)] (dVar 1) aNil)) (tgN 5) cYes (dTup (aCons (dVar 5) (aCons (dLstC aNil) aNil))) [5]) aNil)) (dVar 0))
    (sSeq (sFldS csT 7 1 dDctC (dVar 0))
    (sFor (itAny (dMeth 7 [(19, f_Net_walks)] (dVar 1) aNil)) (tgT [(tgN 2), (tgN 3), (tgN 4)]) g_Feet___init___b1)))
def f_Feet___init__ : List D → Sto → Res D := mkF 6 2 g_Feet___init__
theorem sc_Feet___init__ : FnScope N_Feet___init__ ["self", "net"] (defScope s_Feet___init__) := ⟨rfl, rfl, rfl, by decide +kernel, rfl, by decide +kernel, by decide +kernel⟩
section
variable {P : Program} {w : World} {K : PySem.W.Frag} {mg : Str → Option Value} {base : Heap}
theorem b_Feet___init__ (Tx : Txt K mg) (m_Net_stops : Mc (tb K) P w mg base 19 "stops" 1 1 f_Net_stops) (m_Net_walks : Mc (tb K) P w mg base 19 "walks" 1 1 f_Net_walks) {f : Addr} (cdv : Value) (A : Around) (outer : List PySem.Env) (s : Shared) (H : Hp) (E : XK) (hr : Room 1 (A.deeper (PyProof.Rows.envOfC "Feet.__init__" (defScope s_Feet___init__) s.heap.objs.size f cdv))) : PDb (tb K) (cxOf (L2.CX P w) P w (tb K).K mg base N_Feet___init__ "Feet.__init__" (defScope s_Feet___init__) f cdv A outer s H E) (defBody s_Feet___init__) (g_Feet___init__) :=
  (b_cons (s_fld 0 Tx.ob (d_callT (fun _ _ => call_dictX rfl) db_dictP Tx.f_dict (by decide +kernel) (a_cons (d_lc (own := [("stop", 5)]) sc_Feet___init__.nd (i_any (d_meth0 (nF := 7) (j := 1) (tbl := [(19, f_Net_stops)]) ⟨⟨m_Net_stops.up (by omega), rfl⟩, trivial⟩ nm_stops (d_var 1) hr)) (blkOk_by (sc := defScope s_Feet___init__) (N := N_Feet___init__) (by decide +kernel)) (fun _ _ _ _ _ => (g_name 5 sc_Feet___init__.nd)) (fun _ _ _ _ _ => ts_nil) (fun _ _ _ _ _ => (d_tup (a_cons (d_var 5) (a_cons (d_lstC a_nil) a_nil))))) a_nil)) (d_var 0))
    (b_cons (s_fld 1 Tx.ob d_dctC (d_var 0))
    (b_one (s_for (i_any (d_meth0 (nF := 7) (j := 1) (tbl := [(19, f_Net_walks)]) ⟨⟨m_Net_walks.up (by omega), rfl⟩, trivial⟩ nm_walks (d_var 1) hr)) (g_tup (gs_cons (g_name 2 sc_Feet___init__.nd) (gs_cons (g_name 3 sc_Feet___init__.nd) (gs_cons (g_name 4 sc_Feet___init__.nd) gs_nil)))) (b_cons (s_expr (d_mt PySem.F.plainAttrs_list PySem.F.slot_list_append PySem.F.type_list_append (fun _ _ => mt_append) dm_append (d_dix (d_fld 0 Tx.ob (d_var 0)) (d_var 2) (hu_of hr.units)) (a_cons (d_tup (a_cons (d_var 3) (a_cons (d_var 4) a_nil))) a_nil)))
    (b_one (s_expr (d_mt PySem.F.plainAttrs_list PySem.F.slot_list_append PySem.F.type_list_append (fun _ _ => mt_append) dm_append (d_dix (d_fld 0 Tx.ob (d_var 0)) (d_var 3) (hu_of hr.units)) (a_cons (d_tup (a_cons (d_var 2) (a_cons (d_var 4) a_nil))) a_nil)))))))))
end
/-! ### Feet.need -/
abbrev N_Feet_need : List Str := ["self", "stop"]
def g_Feet_need : DS :=
  (sIf (tOrD (tNotD (tst (dBi (bIsO parT parA csT) (aCons (dVar 1) (aCons (dC (.ty "str")) aNil))))) (tst (dDin true (dVar 1) (dFld csT 7 0 (dVar 0))))) (sRaise 6) sPass)
def f_Feet_need : List D → Sto → Res D := mkF 2 2 g_Feet_need
theorem sc_Feet_need : FnScope N_Feet_need ["self", "stop"] (defScope s_Feet_need) := ⟨rfl, rfl, rfl, by decide +kernel, rfl, by decide +kernel, by decide +kernel⟩
section
variable {P : Program} {w : World} {K : PySem.W.Frag} {mg : Str → Option Value} {base : Heap}
theorem b_Feet_need (Tx : Txt K mg)  {f : Addr} (cdv : Value) (A : Around) (outer : List PySem.Env) (s : Shared) (H : Hp) (E : XK) (hr : Room 0 (A.deeper (PyProof.Rows.envOfC "Feet.need" (defScope s_Feet_need) s.heap.objs.size f cdv))) : PDb (tb K) (cxOf (L2.CX P w) P w (tb K).K mg base N_Feet_need "Feet.need" (defScope s_Feet_need) f cdv A outer s H E) (defBody s_Feet_need) (g_Feet_need) :=
  (b_one (s_if (PDw.t (w_or (t_not (t_val (d_callB (fun _ _ => call_isA) (db_isO Tx.xt Tx.ob Tx.ki) Tx.f_isinstance (by decide +kernel) (a_cons (d_var 1) (a_cons (d_ty "str" Tx.f_str (by decide +kernel)) a_nil))))) (w_or1 (t_dnotin (d_var 1) (d_fld 0 Tx.ob (d_var 0)) (hu_of hr.units))))) (b_one (s_raise 6 Tx.xt Tx.c_NoStop)) b_nil))
end
/-! ### Feet.sought -/
abbrev N_Feet_sought : List Str := ["self", "start", "found", "heap", "least", "minutes", "here", "ahead", "other", "more"]
def g_Feet_sought_b1 : DS :=
  (sDrop (dMt "list" mAppend (dVar 3) (aCons (dTup (aCons (dOp oAdd (dVar 5) (dVar 9)) (aCons (dVar 8) (aCons (dVar 6) aNil)))) aNil)))
def g_Feet_sought_b2 : DS :=
  (sSeq (sSet 4 (dBi bMin3 (aCons (dVar 3) aNil)))
    (sSeq (sDrop (dMt "list" mRem3 (dVar 3) (aCons (dVar 4) aNil)))
    (sSeq (sAsg (dVar 4) (tgT [(tgN 5), (tgN 6), (tgN 7)]))
    (sSeq (sIf (tst (dDin false (dVar 6) (dVar 2))) sCt sPass)
    (sSeq (sDput (dTup (aCons (dVar 5) (aCons (dVar 7) aNil))) (dVar 2) (dVar 6))
    (sForA (dDix (dFld csT 7 0 (dVar 0)) (dVar 6)) (tgT [(tgN 8), (tgN 9)]) g_Feet_sought_b1))))))
def g_Feet_sought : DS :=
  (sSeq (sSet 2 dDctC)
    (sSeq (sSet 3 (dLstC (aCons (dTup (aCons (dC (.int 0)) (aCons (dVar 1) (aCons (dVar 1) aNil)))) aNil)))
    (sSeq (sWh 64 (tst (dOp oNe (dVar 3) (dLst aNil))) g_Feet_sought_b2)
    (sSeq (sFrz 2) (sRet (dVar 2))))))
def f_Feet_sought : List D → Sto → Res D := mkF 10 2 g_Feet_sought
theorem sc_Feet_sought : FnScope N_Feet_sought ["self", "start"] (defScope s_Feet_sought) := ⟨rfl, rfl, rfl, by decide +kernel, rfl, by decide +kernel, by decide +kernel⟩
section
variable {P : Program} {w : World} {K : PySem.W.Frag} {mg : Str → Option Value} {base : Heap}
theorem b_Feet_sought (Tx : Txt K mg)  {f : Addr} (cdv : Value) (A : Around) (outer : List PySem.Env) (s : Shared) (H : Hp) (E : XK) (hr : Room 0 (A.deeper (PyProof.Rows.envOfC "Feet.sought" (defScope s_Feet_sought) s.heap.objs.size f cdv))) : PDb (tb K) (cxOf (L2.CX P w) P w (tb K).K mg base N_Feet_sought "Feet.sought" (defScope s_Feet_sought) f cdv A outer s H E) (defBody s_Feet_sought) (g_Feet_sought) :=
  (b_cons (s_set 2 sc_Feet_sought.nd d_dctC)
    (b_cons (s_set 3 sc_Feet_sought.nd (d_lstC (a_cons (d_tup (a_cons d_int (a_cons (d_var 1) (a_cons (d_var 1) a_nil)))) a_nil)))
    (b_cons (s_while 64 (t_cmp (fun _ _ => op_neA hr.units) do_ne (d_var 3) (d_lst a_nil) (nomark _)) (b_cons (s_set 4 sc_Feet_sought.nd (d_callB (fun _ _ => call_min3D rfl hr.units) db_min3 Tx.f_min (by decide +kernel) (a_cons (d_var 3) a_nil)))
    (b_cons (s_expr (d_mt PySem.F.plainAttrs_list PySem.F.slot_list_remove PySem.F.type_list_remove (fun _ _ => mt_rem3 hr.units) dm_rem3 (d_var 3) (a_cons (d_var 4) a_nil)))
    (b_cons (s_asg (d_var 4) (g_tup (gs_cons (g_name 5 sc_Feet_sought.nd) (gs_cons (g_name 6 sc_Feet_sought.nd) (gs_cons (g_name 7 sc_Feet_sought.nd) gs_nil)))))
    (b_cons (s_if (t_din (d_var 6) (d_var 2) (hu_of hr.units)) (b_one s_ct) b_nil)
    (b_cons (s_dput (d_tup (a_cons (d_var 5) (a_cons (d_var 7) a_nil))) (d_var 2) (d_var 6) (hu_of hr.units))
    (b_one (s_forA (d_dix (d_fld 0 Tx.ob (d_var 0)) (d_var 6) (hu_of hr.units)) (g_tup (gs_cons (g_name 8 sc_Feet_sought.nd) (gs_cons (g_name 9 sc_Feet_sought.nd) gs_nil))) (b_one (s_expr (d_mt PySem.F.plainAttrs_list PySem.F.slot_list_append PySem.F.type_list_append (fun _ _ => mt_append) dm_append (d_var 3) (a_cons (d_tup (a_cons (d_op (fun _ _ => op_addA) do_add (d_var 5) (d_var 9)) (a_cons (d_var 8) (a_cons (d_var 6) a_nil)))) a_nil))))))))))))
    (b_frz 2 (b_one (s_ret (d_var 2)))))))
end
/-! ### Feet.led -/
abbrev N_Feet_led : List Str := ["self", "one", "other"]
def g_Feet_led : DS :=
  (sSeq (sDrop (dMeth 7 [(18, f_Feet_need)] (dVar 0) (aCons (dVar 1) aNil)))
    (sSeq (sDrop (dMeth 7 [(18, f_Feet_need)] (dVar 0) (aCons (dVar 2) aNil)))
    (sSeq (sIf (tst (dDin true (dVar 1) (dFld csT 7 1 (dVar 0)))) (sDput (dMeth 7 [(18, f_Feet_sought)] (dVar 0) (aCons (dVar 1) aNil)) (dFld csT 7 1 (dVar 0)) (dVar 1)) sPass)
    (sSeq (sIf (tst (dDin true (dVar 2) (dDix (dFld csT 7 1 (dVar 0)) (dVar 1)))) (sRet (dC .non)) sPass)
    (sRet (dDix (dFld csT 7 1 (dVar 0)) (dVar 1)))))))
def f_Feet_led : List D → Sto → Res D := mkF 3 3 g_Feet_led
theorem sc_Feet_led : FnScope N_Feet_led ["self", "one", "other"] (defScope s_Feet_led) := ⟨rfl, rfl, rfl, by decide +kernel, rfl, by decide +kernel, by decide +kernel⟩
section
variable {P : Program} {w : World} {K : PySem.W.Frag} {mg : Str → Option Value} {base : Heap}
theorem b_Feet_led (Tx : Txt K mg) (m_Feet_need : Mc (tb K) P w mg base 18 "need" 1 2 f_Feet_need) (m_Feet_sought : Mc (tb K) P w mg base 18 "sought" 1 2 f_Feet_sought) {f : Addr} (cdv : Value) (A : Around) (outer : List PySem.Env) (s : Shared) (H : Hp) (E : XK) (hr : Room 1 (A.deeper (PyProof.Rows.envOfC "Feet.led" (defScope s_Feet_led) s.heap.objs.size f cdv))) : PDb (tb K) (cxOf (L2.CX P w) P w (tb K).K mg base N_Feet_led "Feet.led" (defScope s_Feet_led) f cdv A outer s H E) (defBody s_Feet_led) (g_Feet_led) :=
  (b_cons (s_expr (d_meth (nF := 7) (j := 1) (tbl := [(18, f_Feet_need)]) ⟨⟨m_Feet_need.up (by omega), rfl⟩, trivial⟩ nm_need (d_var 0) (a_cons (d_var 1) a_nil) hr))
    (b_cons (s_expr (d_meth (nF := 7) (j := 1) (tbl := [(18, f_Feet_need)]) ⟨⟨m_Feet_need.up (by omega), rfl⟩, trivial⟩ nm_need (d_var 0) (a_cons (d_var 2) a_nil) hr))
    (b_cons (s_if (t_dnotin (d_var 1) (d_fld 1 Tx.ob (d_var 0)) (hu_of hr.units)) (b_one (s_dput (d_meth (nF := 7) (j := 1) (tbl := [(18, f_Feet_sought)]) ⟨⟨m_Feet_sought.up (by omega), rfl⟩, trivial⟩ nm_sought (d_var 0) (a_cons (d_var 1) a_nil) hr) (d_fld 1 Tx.ob (d_var 0)) (d_var 1) (hu_of hr.units))) b_nil)
    (b_cons (s_if (t_dnotin (d_var 2) (d_dix (d_fld 1 Tx.ob (d_var 0)) (d_var 1) (hu_of hr.units)) (hu_of hr.units)) (b_one (s_ret d_non)) b_nil)
    (b_one (s_ret (d_dix (d_fld 1 Tx.ob (d_var 0)) (d_var 1) (hu_of hr.units))))))))
end
/-! ### Feet.minutes -/
abbrev N_Feet_minutes : List Str := ["self", "one", "other", "found"]
def g_Feet_minutes : DS :=
  (sSeq (sSet 3 (dMeth 7 [(18, f_Feet_led)] (dVar 0) (aCons (dVar 1) (aCons (dVar 2) aNil))))
    (sSeq (sIf (tst (dOp (oIs false) (dVar 3) (dC .non))) (sRet (dC .non)) sPass)
    (sRet (dOp oIx (dDix (dVar 3) (dVar 2)) (dC (.int 0))))))
def f_Feet_minutes : List D → Sto → Res D := mkF 4 3 g_Feet_minutes
theorem sc_Feet_minutes : FnScope N_Feet_minutes ["self", "one", "other"] (defScope s_Feet_minutes) := ⟨rfl, rfl, rfl, by decide +kernel, rfl, by decide +kernel, by decide +kernel⟩
section
variable {P : Program} {w : World} {K : PySem.W.Frag} {mg : Str → Option Value} {base : Heap}
theorem b_Feet_minutes (Tx : Txt K mg) (m_Feet_led : Mc (tb K) P w mg base 18 "led" 2 3 f_Feet_led) {f : Addr} (cdv : Value) (A : Around) (outer : List PySem.Env) (s : Shared) (H : Hp) (E : XK) (hr : Room 2 (A.deeper (PyProof.Rows.envOfC "Feet.minutes" (defScope s_Feet_minutes) s.heap.objs.size f cdv))) : PDb (tb K) (cxOf (L2.CX P w) P w (tb K).K mg base N_Feet_minutes "Feet.minutes" (defScope s_Feet_minutes) f cdv A outer s H E) (defBody s_Feet_minutes) (g_Feet_minutes) :=
  (b_cons (s_set 3 sc_Feet_minutes.nd (d_meth (nF := 7) (j := 2) (tbl := [(18, f_Feet_led)]) ⟨⟨m_Feet_led.up (by omega), rfl⟩, trivial⟩ nm_led (d_var 0) (a_cons (d_var 1) (a_cons (d_var 2) a_nil)) hr))
    (b_cons (s_if (t_cmp (fun _ _ => op_isN) do_is (d_var 3) d_non (nomark _)) (b_one (s_ret d_non)) b_nil)
    (b_one (s_ret (d_ix (d_dix (d_var 3) (d_var 2) (hu_of hr.units)) d_int)))))
end
/-! ### Feet.way -/
abbrev N_Feet_way : List Str := ["self", "one", "other", "found", "stops"]
def g_Feet_way_b1 : DS :=
  (sDrop (dMt "list" mAppend (dVar 4) (aCons (dOp oIx (dDix (dVar 3) (dOp oIx (dVar 4) (dUn (fun i => -i) (dC (.int 1))))) (dC (.int 1))) aNil)))
def g_Feet_way : DS :=
  (sSeq (sSet 3 (dMeth 7 [(18, f_Feet_led)] (dVar 0) (aCons (dVar 1) (aCons (dVar 2) aNil))))
    (sSeq (sIf (tst (dOp (oIs false) (dVar 3) (dC .non))) (sRet (dC .non)) sPass)
    (sSeq (sSet 4 (dLstC (aCons (dVar 2) aNil)))
    (sSeq (sWh 64 (tst (dOp oNe (dOp oIx (dVar 4) (dUn (fun i => -i) (dC (.int 1)))) (dVar 1))) g_Feet_way_b1)
    (sSeq (sDrop (dMt "list" mReverse (dVar 4) aNil))
    (sRet (dVar 4)))))))
def f_Feet_way : List D → Sto → Res D := mkF 5 3 g_Feet_way
theorem sc_Feet_way : FnScope N_Feet_way ["self", "one", "other"] (defScope s_Feet_way) := ⟨rfl, rfl, rfl, by decide +kernel, rfl, by decide +kernel, by decide +kernel⟩
section
variable {P : Program} {w : World} {K : PySem.W.Frag} {mg : Str → Option Value} {base : Heap}
theorem b_Feet_way (Tx : Txt K mg) (m_Feet_led : Mc (tb K) P w mg base 18 "led" 2 3 f_Feet_led) {f : Addr} (cdv : Value) (A : Around) (outer : List PySem.Env) (s : Shared) (H : Hp) (E : XK) (hr : Room 2 (A.deeper (PyProof.Rows.envOfC "Feet.way" (defScope s_Feet_way) s.heap.objs.size f cdv))) : PDb (tb K) (cxOf (L2.CX P w) P w (tb K).K mg base N_Feet_way "Feet.way" (defScope s_Feet_way) f cdv A outer s H E) (defBody s_Feet_way) (g_Feet_way) :=
  (b_cons (s_set 3 sc_Feet_way.nd (d_meth (nF := 7) (j := 2) (tbl := [(18, f_Feet_led)]) ⟨⟨m_Feet_led.up (by omega), rfl⟩, trivial⟩ nm_led (d_var 0) (a_cons (d_var 1) (a_cons (d_var 2) a_nil)) hr))
    (b_cons (s_if (t_cmp (fun _ _ => op_isN) do_is (d_var 3) d_non (nomark _)) (b_one (s_ret d_non)) b_nil)
    (b_cons (s_set 4 sc_Feet_way.nd (d_lstC (a_cons (d_var 2) a_nil)))
    (b_cons (s_while 64 (t_cmp (fun _ _ => op_neA hr.units) do_ne (d_ix (d_var 4) (d_neg d_int)) (d_var 1) (nomark _)) (b_one (s_expr (d_mt PySem.F.plainAttrs_list PySem.F.slot_list_append PySem.F.type_list_append (fun _ _ => mt_append) dm_append (d_var 4) (a_cons (d_ix (d_dix (d_var 3) (d_ix (d_var 4) (d_neg d_int)) (hu_of hr.units)) d_int) a_nil)))))
    (b_cons (s_expr (d_mt0 PySem.F.plainAttrs_list PySem.F.slot_list_reverse PySem.F.type_list_reverse (fun _ _ => mt_reverse) dm_reverse (d_var 4)))
    (b_one (s_ret (d_var 4))))))))
end
/-! ### is_among -/
abbrev N_is_among : List Str := ["thing", "least", "most"]
def g_is_among : DS :=
  (sRet (dAndV (dBi (bIsO parT parA csT) (aCons (dVar 0) (aCons (dC (.ty "int")) aNil))) (dAndV (dNotV (dBi (bIsO parT parA csT) (aCons (dVar 0) (aCons (dC (.ty "bool")) aNil)))) (dChain oLe oLe (dVar 1) (dVar 0) (dVar 2)))))
def f_is_among : List D → Sto → Res D := mkF 3 3 g_is_among
theorem sc_is_among : FnScope N_is_among ["thing", "least", "most"] (defScope s_is_among) := ⟨rfl, rfl, rfl, by decide +kernel, rfl, by decide +kernel, by decide +kernel⟩
section
variable {P : Program} {w : World} {K : PySem.W.Frag} {mg : Str → Option Value} {base : Heap}
theorem b_is_among (Tx : Txt K mg)  {f : Addr} (cdv : Value) (A : Around) (outer : List PySem.Env) (s : Shared) (H : Hp) (E : XK) (hr : Room 0 (A.deeper (PyProof.Rows.envOfC "is_among" (defScope s_is_among) s.heap.objs.size f cdv))) : PDb (tb K) (cxOf (L2.CX P w) P w (tb K).K mg base N_is_among "is_among" (defScope s_is_among) f cdv A outer s H E) (defBody s_is_among) (g_is_among) :=
  (b_one (s_ret (d_and (d_callB (fun _ _ => call_isA) (db_isO Tx.xt Tx.ob Tx.ki) Tx.f_isinstance (by decide +kernel) (a_cons (d_var 0) (a_cons (d_ty "int" Tx.f_int (by decide +kernel)) a_nil))) (d_and (d_not (d_callB (fun _ _ => call_isA) (db_isO Tx.xt Tx.ob Tx.ki) Tx.f_isinstance (by decide +kernel) (a_cons (d_var 0) (a_cons (d_ty "bool" Tx.f_bool (by decide +kernel)) a_nil)))) (d_one (d_chain (fun _ _ => op_le) (fun _ _ => op_le) do_cmp do_cmp (d_var 1) (d_var 0) (d_var 2)))))))
end
/-! ### is_name -/
abbrev N_is_name : List Str := ["thing", "sign"]
def g_is_name : DS :=
  (sSeq (sIf (tOrD (tNotD (tst (dBi (bIsO parT parA csT) (aCons (dVar 0) (aCons (dC (.ty "str")) aNil))))) (tNotD (tst (dChain oLe oLe (dC (.int 1)) (dBi bLen (aCons (dVar 0) aNil)) (dC (.int 8)))))) (sRet (dC (.bl false))) sPass)
    (sRet (dBi bAll (aCons (dLc (itAny (dVar 0)) (tgN 1) cYes (dOp (oInA false) (dVar 1) (dC (.str [97, 98, 99, 100, 101, 102, 103, 104, 105, 106, 107, 108, 109, 110, 111, 112, 113, 114, 115, 116, 117, 118, 119, 120, 121, 122]))) [1]) aNil))))
def f_is_name : List D → Sto → Res D := mkF 2 1 g_is_name
theorem sc_is_name : FnScope N_is_name ["thing"] (defScope s_is_name) := ⟨rfl, rfl, rfl, by decide +kernel, rfl, by decide +kernel, by decide +kernel⟩
section
variable {P : Program} {w : World} {K : PySem.W.Frag} {mg : Str → Option Value} {base : Heap}
theorem b_is_name (Tx : Txt K mg)  {f : Addr} (cdv : Value) (A : Around) (outer : List PySem.Env) (s : Shared) (H : Hp) (E : XK) (hr : Room 0 (A.deeper (PyProof.Rows.envOfC "is_name" (defScope s_is_name) s.heap.objs.size f cdv))) : PDb (tb K) (cxOf (L2.CX P w) P w (tb K).K mg base N_is_name "is_name" (defScope s_is_name) f cdv A outer s H E) (defBody s_is_name) (g_is_name) :=
  (b_cons (s_if (PDw.t (w_or (t_not (t_val (d_callB (fun _ _ => call_isA) (db_isO Tx.xt Tx.ob Tx.ki) Tx.f_isinstance (by decide +kernel) (a_cons (d_var 0) (a_cons (d_ty "str" Tx.f_str (by decide +kernel)) a_nil))))) (w_or1 (t_not (t_chain (fun _ _ => op_le) (fun _ _ => op_le) do_cmp do_cmp d_int (d_callB (fun _ _ => call_len) db_len Tx.f_len (by decide +kernel) (a_cons (d_var 0) a_nil)) (d_glob (d := .int 8) (v := .int 8) (fun _ _ => by unfold Rp; rfl) Tx.k_MOST_LETTERS)))))) (b_one (s_ret d_bl)) b_nil)
    (b_one (s_ret (d_callB (fun _ _ => cr_all rfl) db_all Tx.f_all (by decide +kernel) (a_cons (d_lc (own := [("sign", 1)]) sc_is_name.nd (i_any (d_var 0)) (blkOk_by (sc := defScope s_is_name) (N := N_is_name) (by decide +kernel)) (fun _ _ _ _ _ => (g_name 1 sc_is_name.nd)) (fun _ _ _ _ _ => ts_nil) (fun _ _ _ _ _ => (d_cmp (fun _ _ => op_inA) do_inA (d_var 1) (d_glob (d := .str [97, 98, 99, 100, 101, 102, 103, 104, 105, 106, 107, 108, 109, 110, 111, 112, 113, 114, 115, 116, 117, 118, 119, 120, 121, 122]) (v := .str (S [97, 98, 99, 100, 101, 102, 103, 104, 105, 106, 107, 108, 109, 110, 111, 112, 113, 114, 115, 116, 117, 118, 119, 120, 121, 122])) (fun _ _ => by unfold Rp; rfl) Tx.k_LETTERS) (by rfl)))) a_nil)))))
end
/-! ### need_fresh -/
abbrev N_need_fresh : List Str := ["name", "kept"]
def g_need_fresh : DS :=
  (sSeq (sIf (tNotD (tst (dCall f_is_name (aCons (dVar 0) aNil)))) (sRaise 4) sPass)
    (sIf (tst (dDin false (dVar 0) (dVar 1))) (sRaise 5) sPass))
def f_need_fresh : List D → Sto → Res D := mkF 2 2 g_need_fresh
theorem sc_need_fresh : FnScope N_need_fresh ["name", "kept"] (defScope s_need_fresh) := ⟨rfl, rfl, rfl, by decide +kernel, rfl, by decide +kernel, by decide +kernel⟩
section
variable {P : Program} {w : World} {K : PySem.W.Frag} {mg : Str → Option Value} {base : Heap}
theorem b_need_fresh (Tx : Txt K mg) (c_is_name : Cl (tb K) P w mg base "is_name" 1 1 f_is_name) {f : Addr} (cdv : Value) (A : Around) (outer : List PySem.Env) (s : Shared) (H : Hp) (E : XK) (hr : Room 1 (A.deeper (PyProof.Rows.envOfC "need_fresh" (defScope s_need_fresh) s.heap.objs.size f cdv))) : PDb (tb K) (cxOf (L2.CX P w) P w (tb K).K mg base N_need_fresh "need_fresh" (defScope s_need_fresh) f cdv A outer s H E) (defBody s_need_fresh) (g_need_fresh) :=
  (b_cons (s_if (t_not (t_val (d_call c_is_name (a_cons (d_var 0) a_nil) hr (by omega)))) (b_one (s_raise 4 Tx.xt Tx.c_BadName)) b_nil)
    (b_one (s_if (t_din (d_var 0) (d_var 1) (hu_of hr.units)) (b_one (s_raise 5 Tx.xt Tx.c_Twice)) b_nil)))
end
/-! ### need_among -/
abbrev N_need_among : List Str := ["thing", "least", "most"]
def g_need_among : DS :=
  (sIf (tNotD (tst (dCall f_is_among (aCons (dVar 0) (aCons (dVar 1) (aCons (dVar 2) aNil)))))) (sRaise 10) sPass)
def f_need_among : List D → Sto → Res D := mkF 3 3 g_need_among
theorem sc_need_among : FnScope N_need_among ["thing", "least", "most"] (defScope s_need_among) := ⟨rfl, rfl, rfl, by decide +kernel, rfl, by decide +kernel, by decide +kernel⟩
section
variable {P : Program} {w : World} {K : PySem.W.Frag} {mg : Str → Option Value} {base : Heap}
theorem b_need_among (Tx : Txt K mg) (c_is_among : Cl (tb K) P w mg base "is_among" 1 3 f_is_among) {f : Addr} (cdv : Value) (A : Around) (outer : List PySem.Env) (s : Shared) (H : Hp) (E : XK) (hr : Room 1 (A.deeper (PyProof.Rows.envOfC "need_among" (defScope s_need_among) s.heap.objs.size f cdv))) : PDb (tb K) (cxOf (L2.CX P w) P w (tb K).K mg base N_need_among "need_among" (defScope s_need_among) f cdv A outer s H E) (defBody s_need_among) (g_need_among) :=
  (b_one (s_if (t_not (t_val (d_call c_is_among (a_cons (d_var 0) (a_cons (d_var 1) (a_cons (d_var 2) a_nil))) hr (by omega)))) (b_one (s_raise 10 Tx.xt Tx.c_BadNumber)) b_nil))
end
/-! ### need_room -/
abbrev N_need_room : List Str := ["kept", "most"]
def g_need_room : DS :=
  (sIf (tst (dOp oGe (dBi bLenA (aCons (dVar 0) aNil)) (dVar 1))) (sRaise 3) sPass)
def f_need_room : List D → Sto → Res D := mkF 2 2 g_need_room
theorem sc_need_room : FnScope N_need_room ["kept", "most"] (defScope s_need_room) := ⟨rfl, rfl, rfl, by decide +kernel, rfl, by decide +kernel, by decide +kernel⟩
section
variable {P : Program} {w : World} {K : PySem.W.Frag} {mg : Str → Option Value} {base : Heap}
theorem b_need_room (Tx : Txt K mg)  {f : Addr} (cdv : Value) (A : Around) (outer : List PySem.Env) (s : Shared) (H : Hp) (E : XK) (hr : Room 0 (A.deeper (PyProof.Rows.envOfC "need_room" (defScope s_need_room) s.heap.objs.size f cdv))) : PDb (tb K) (cxOf (L2.CX P w) P w (tb K).K mg base N_need_room "need_room" (defScope s_need_room) f cdv A outer s H E) (defBody s_need_room) (g_need_room) :=
  (b_one (s_if (t_cmp (fun _ _ => op_ge) do_cmp (d_callB (fun _ _ => call_lenA) db_lenA Tx.f_len PySem.boot_len (a_cons (d_var 0) a_nil)) (d_var 1) (nomark _)) (b_one (s_raise 3 Tx.xt Tx.c_TooMany)) b_nil))
end
/-! ### Net.__init__ -/
abbrev N_Net___init__ : List Str := ["self"]
def g_Net___init__ : DS :=
  (sSeq (sFldS csT 7 2 dDctC (dVar 0))
    (sSeq (sFldS csT 7 3 (dLstC aNil) (dVar 0))
    (sSeq (sFldS csT 7 4 dDctC (dVar 0))
    (sSeq (sFldS csT 7 5 dDctC (dVar 0))
    (sFldS csT 7 6 dDctC (dVar 0))))))
def f_Net___init__ : List D → Sto → Res D := mkF 1 1 g_Net___init__
theorem sc_Net___init__ : FnScope N_Net___init__ ["self"] (defScope s_Net___init__) := ⟨rfl, rfl, rfl, by decide +kernel, rfl, by decide +kernel, by decide +kernel⟩
section
variable {P : Program} {w : World} {K : PySem.W.Frag} {mg : Str → Option Value} {base : Heap}
theorem b_Net___init__ (Tx : Txt K mg)  {f : Addr} (cdv : Value) (A : Around) (outer : List PySem.Env) (s : Shared) (H : Hp) (E : XK) (hr : Room 0 (A.deeper (PyProof.Rows.envOfC "Net.__init__" (defScope s_Net___init__) s.heap.objs.size f cdv))) : PDb (tb K) (cxOf (L2.CX P w) P w (tb K).K mg base N_Net___init__ "Net.__init__" (defScope s_Net___init__) f cdv A outer s H E) (defBody s_Net___init__) (g_Net___init__) :=
  (b_cons (s_fld 2 Tx.ob d_dctC (d_var 0))
    (b_cons (s_fld 3 Tx.ob (d_lstC a_nil) (d_var 0))
    (b_cons (s_fld 4 Tx.ob d_dctC (d_var 0))
    (b_cons (s_fld 5 Tx.ob d_dctC (d_var 0))
    (b_one (s_fld 6 Tx.ob d_dctC (d_var 0)))))))
end
/-! ### Net.need_stop -/
abbrev N_Net_need_stop : List Str := ["self", "stop"]
def g_Net_need_stop : DS :=
  (sIf (tOrD (tNotD (tst (dCall f_is_name (aCons (dVar 1) aNil)))) (tst (dDin true (dVar 1) (dFld csT 7 2 (dVar 0))))) (sRaise 6) sPass)
def f_Net_need_stop : List D → Sto → Res D := mkF 2 2 g_Net_need_stop
theorem sc_Net_need_stop : FnScope N_Net_need_stop ["self", "stop"] (defScope s_Net_need_stop) := ⟨rfl, rfl, rfl, by decide +kernel, rfl, by decide +kernel, by decide +kernel⟩
section
variable {P : Program} {w : World} {K : PySem.W.Frag} {mg : Str → Option Value} {base : Heap}
theorem b_Net_need_stop (Tx : Txt K mg) (c_is_name : Cl (tb K) P w mg base "is_name" 1 1 f_is_name) {f : Addr} (cdv : Value) (A : Around) (outer : List PySem.Env) (s : Shared) (H : Hp) (E : XK) (hr : Room 1 (A.deeper (PyProof.Rows.envOfC "Net.need_stop" (defScope s_Net_need_stop) s.heap.objs.size f cdv))) : PDb (tb K) (cxOf (L2.CX P w) P w (tb K).K mg base N_Net_need_stop "Net.need_stop" (defScope s_Net_need_stop) f cdv A outer s H E) (defBody s_Net_need_stop) (g_Net_need_stop) :=
  (b_one (s_if (PDw.t (w_or (t_not (t_val (d_call c_is_name (a_cons (d_var 1) a_nil) hr (by omega)))) (w_or1 (t_dnotin (d_var 1) (d_fld 2 Tx.ob (d_var 0)) (hu_of hr.units))))) (b_one (s_raise 6 Tx.xt Tx.c_NoStop)) b_nil))
end
/-! ### Net.add_stop -/
abbrev N_Net_add_stop : List Str := ["self", "name", "zone", "change"]
def g_Net_add_stop : DS :=
  (sSeq (sDrop (dCall f_need_fresh (aCons (dVar 1) (aCons (dFld csT 7 2 (dVar 0)) aNil))))
    (sSeq (sDrop (dCall f_need_among (aCons (dVar 2) (aCons (dC (.int 1)) (aCons (dC (.int 6)) aNil)))))
    (sSeq (sDrop (dCall f_need_among (aCons (dVar 3) (aCons (dC (.int 0)) (aCons (dC (.int 30)) aNil)))))
    (sSeq (sDrop (dCall f_need_room (aCons (dFld csT 7 2 (dVar 0)) (aCons (dC (.int 8)) aNil))))
    (sDput (dTup (aCons (dVar 2) (aCons (dVar 3) aNil))) (dFld csT 7 2 (dVar 0)) (dVar 1))))))
def f_Net_add_stop : List D → Sto → Res D := mkF 4 4 g_Net_add_stop
theorem sc_Net_add_stop : FnScope N_Net_add_stop ["self", "name", "zone", "change"] (defScope s_Net_add_stop) := ⟨rfl, rfl, rfl, by decide +kernel, rfl, by decide +kernel, by decide +kernel⟩
section
variable {P : Program} {w : World} {K : PySem.W.Frag} {mg : Str → Option Value} {base : Heap}
theorem b_Net_add_stop (Tx : Txt K mg) (c_need_fresh : Cl (tb K) P w mg base "need_fresh" 2 2 f_need_fresh) (c_need_among : Cl (tb K) P w mg base "need_among" 2 3 f_need_among) (c_need_room : Cl (tb K) P w mg base "need_room" 1 2 f_need_room) {f : Addr} (cdv : Value) (A : Around) (outer : List PySem.Env) (s : Shared) (H : Hp) (E : XK) (hr : Room 2 (A.deeper (PyProof.Rows.envOfC "Net.add_stop" (defScope s_Net_add_stop) s.heap.objs.size f cdv))) : PDb (tb K) (cxOf (L2.CX P w) P w (tb K).K mg base N_Net_add_stop "Net.add_stop" (defScope s_Net_add_stop) f cdv A outer s H E) (defBody s_Net_add_stop) (g_Net_add_stop) :=
  (b_cons (s_expr (d_call c_need_fresh (a_cons (d_var 1) (a_cons (d_fld 2 Tx.ob (d_var 0)) a_nil)) hr (by omega)))
    (b_cons (s_expr (d_call c_need_among (a_cons (d_var 2) (a_cons d_int (a_cons (d_glob (d := .int 6) (v := .int 6) (fun _ _ => by unfold Rp; rfl) Tx.k_MOST_ZONE) a_nil))) hr (by omega)))
    (b_cons (s_expr (d_call c_need_among (a_cons (d_var 3) (a_cons d_int (a_cons d_int a_nil))) hr (by omega)))
    (b_cons (s_expr (d_call c_need_room (a_cons (d_fld 2 Tx.ob (d_var 0)) (a_cons (d_glob (d := .int 8) (v := .int 8) (fun _ _ => by unfold Rp; rfl) Tx.k_MOST_STOPS) a_nil)) hr (by omega)))
    (b_one (s_dput (d_tup (a_cons (d_var 2) (a_cons (d_var 3) a_nil))) (d_fld 2 Tx.ob (d_var 0)) (d_var 1) (hu_of hr.units)))))))
end
/-! ### Net.add_walk -/
abbrev N_Net_add_walk : List Str := ["self", "one", "other", "minutes", "pairs", "path"]
def g_Net_add_walk : DS :=
  (sSeq (sDrop (dMeth 7 [(19, f_Net_need_stop)] (dVar 0) (aCons (dVar 1) aNil)))
    (sSeq (sDrop (dMeth 7 [(19, f_Net_need_stop)] (dVar 0) (aCons (dVar 2) aNil)))
    (sSeq (sSet 4 (dLcA (dFld csT 7 3 (dVar 0)) (tgN 5) cYes (dSl (dVar 5) pNone (pSome (dC (.int 2)))) [5]))
    (sSeq (sIf (tOrD (tst (dOp oEq (dVar 1) (dVar 2))) (tOrD (tst (dOp (oInX false) (dTup (aCons (dVar 1) (aCons (dVar 2) aNil))) (dVar 4))) (tst (dOp (oInX false) (dTup (aCons (dVar 2) (aCons (dVar 1) aNil))) (dVar 4))))) (sRaise 5) sPass)
    (sSeq (sDrop (dCall f_need_among (aCons (dVar 3) (aCons (dC (.int 1)) (aCons (dC (.int 60)) aNil)))))
    (sSeq (sDrop (dCall f_need_room (aCons (dFld csT 7 3 (dVar 0)) (aCons (dC (.int 12)) aNil))))
    (sDrop (dMt "list" mAppend (dFld csT 7 3 (dVar 0)) (aCons (dTup (aCons (dVar 1) (aCons (dVar 2) (aCons (dVar 3) aNil)))) aNil)))))))))
def f_Net_add_walk : List D → Sto → Res D := mkF 6 4 g_Net_add_walk
theorem sc_Net_add_walk : FnScope N_Net_add_walk ["self", "one", "other", "minutes"] (defScope s_Net_add_walk) := ⟨rfl, rfl, rfl, by decide +kernel, rfl, by decide +kernel, by decide +kernel⟩
section
variable {P : Program} {w : World} {K : PySem.W.Frag} {mg : Str → Option Value} {base : Heap}
theorem b_Net_add_walk (Tx : Txt K mg) (c_need_among : Cl (tb K) P w mg base "need_among" 2 3 f_need_among) (c_need_room : Cl (tb K) P w mg base "need_room" 1 2 f_need_room) (m_Net_need_stop : Mc (tb K) P w mg base 19 "need_stop" 2 2 f_Net_need_stop) {f : Addr} (cdv : Value) (A : Around) (outer : List PySem.Env) (s : Shared) (H : Hp) (E : XK) (hr : Room 2 (A.deeper (PyProof.Rows.envOfC "Net.add_walk" (defScope s_Net_add_walk) s.heap.objs.size f cdv))) : PDb (tb K) (cxOf (L2.CX P w) P w (tb K).K mg base N_Net_add_walk "Net.add_walk" (defScope s_Net_add_walk) f cdv A outer s H E) (defBody s_Net_add_walk) (g_Net_add_walk) :=
  (b_cons (s_expr (d_meth (nF := 7) (j := 2) (tbl := [(19, f_Net_need_stop)]) ⟨⟨m_Net_need_stop.up (by omega), rfl⟩, trivial⟩ nm_need_stop (d_var 0) (a_cons (d_var 1) a_nil) hr))
    (b_cons (s_expr (d_meth (nF := 7) (j := 2) (tbl := [(19, f_Net_need_stop)]) ⟨⟨m_Net_need_stop.up (by omega), rfl⟩, trivial⟩ nm_need_stop (d_var 0) (a_cons (d_var 2) a_nil) hr))
    (b_cons (s_setLcA 4 (own := [("path", 5)]) sc_Net_add_walk.nd (d_fld 3 Tx.ob (d_var 0)) (blkOk_by (sc := defScope s_Net_add_walk) (N := N_Net_add_walk) (by decide +kernel)) (fun _ _ _ _ _ => (g_name 5 sc_Net_add_walk.nd)) (fun _ _ _ _ _ => ts_nil) (fun _ _ _ _ _ => (d_sl (d_var 5) o_none (o_some d_int))) (sw_true rfl rfl rfl (by decide +kernel)))
    (b_cons (s_if (PDw.t (w_or (t_cmp (fun _ _ => op_eqA hr.units) do_eq (d_var 1) (d_var 2) (nomark _)) (w_or (t_cmp (fun _ _ => op_inX hr.units) do_inX (d_tup (a_cons (d_var 1) (a_cons (d_var 2) a_nil))) (d_var 4) (by rfl)) (w_or1 (t_cmp (fun _ _ => op_inX hr.units) do_inX (d_tup (a_cons (d_var 2) (a_cons (d_var 1) a_nil))) (d_var 4) (by rfl)))))) (b_one (s_raise 5 Tx.xt Tx.c_Twice)) b_nil)
    (b_cons (s_expr (d_call c_need_among (a_cons (d_var 3) (a_cons d_int (a_cons d_int a_nil))) hr (by omega)))
    (b_cons (s_expr (d_call c_need_room (a_cons (d_fld 3 Tx.ob (d_var 0)) (a_cons (d_glob (d := .int 12) (v := .int 12) (fun _ _ => by unfold Rp; rfl) Tx.k_MOST_WALKS) a_nil)) hr (by omega)))
    (b_one (s_expr (d_mt PySem.F.plainAttrs_list PySem.F.slot_list_append PySem.F.type_list_append (fun _ _ => mt_append) dm_append (d_fld 3 Tx.ob (d_var 0)) (a_cons (d_tup (a_cons (d_var 1) (a_cons (d_var 2) (a_cons (d_var 3) a_nil)))) a_nil))))))))))
end
/-! ### _law_draw -/
abbrev N__law_draw : List Str := ["_law_script", "_law_k", "_law_cell", "_law_number"]
def g__law_draw : DS :=
  (sSeq (sSet 2 (dC (.int 0)))
    (sSeq (sIf (tst (dOp oNe (dVar 0) (dLst aNil))) (sSet 2 (dOp oIx (dVar 0) (dOp oMod (dVar 1) (dBi bLen (aCons (dVar 0) aNil))))) sPass)
    (sSeq (sSet 3 (dOp oAdd (dOp oAdd (dOp oMod (dVar 2) (dC (.int 1000000007))) (dOp oMulA (dC (.int 7919)) (dVar 1))) (dC (.int 13))))
    (sRet (dOp oDiv (dOp oMod (dOp oMulA (dOp oMod (dOp oMulA (dVar 3) (dVar 3)) (dC (.int 1000000007))) (dVar 3)) (dC (.int 998244353))) (dC (.int 11)))))))
def f__law_draw : List D → Sto → Res D := mkF 4 2 g__law_draw
theorem sc__law_draw : FnScope N__law_draw ["_law_script", "_law_k"] (defScope s__law_draw) := ⟨rfl, rfl, rfl, by decide +kernel, rfl, by decide +kernel, by decide +kernel⟩
section
variable {P : Program} {w : World} {K : PySem.W.Frag} {mg : Str → Option Value} {base : Heap}
theorem b__law_draw (Tx : Txt K mg)  {f : Addr} (cdv : Value) (A : Around) (outer : List PySem.Env) (s : Shared) (H : Hp) (E : XK) (hr : Room 0 (A.deeper (PyProof.Rows.envOfC "_law_draw" (defScope s__law_draw) s.heap.objs.size f cdv))) : PDb (tb K) (cxOf (L2.CX P w) P w (tb K).K mg base N__law_draw "_law_draw" (defScope s__law_draw) f cdv A outer s H E) (defBody s__law_draw) (g__law_draw) :=
  (b_cons (s_set 2 sc__law_draw.nd d_int)
    (b_cons (s_if (t_cmp (fun _ _ => op_neA hr.units) do_ne (d_var 0) (d_lst a_nil) (nomark _)) (b_one (s_set 2 sc__law_draw.nd (d_ix (d_var 0) (d_op (fun _ _ => op_mod) do_mod (d_var 1) (d_callB (fun _ _ => call_len) db_len Tx.f_len (by decide +kernel) (a_cons (d_var 0) a_nil)))))) b_nil)
    (b_cons (s_set 3 sc__law_draw.nd (d_op (fun _ _ => op_addA) do_add (d_op (fun _ _ => op_addA) do_add (d_op (fun _ _ => op_mod) do_mod (d_var 2) d_int) (d_op (fun _ _ => op_mulA) do_mulA d_int (d_var 1))) d_int))
    (b_one (s_ret (d_op (fun _ _ => op_fdiv) do_div (d_op (fun _ _ => op_mod) do_mod (d_op (fun _ _ => op_mulA) do_mulA (d_op (fun _ _ => op_mod) do_mod (d_op (fun _ _ => op_mulA) do_mulA (d_var 3) (d_var 3)) d_int) (d_var 3)) d_int) d_int))))))
end
/-! ### _law_word -/
abbrev N__law_word : List Str := ["_law_e", "_law_some", "_law_word_here", "_law_is_so"]
def g__law_word : DS :=
  (sSeq (sSet 1 (dLst (aCons (dTup (aCons (dC (.str [99, 97, 108, 108, 115])) (aCons (dBi (bIsO parT parA csT) (aCons (dVar 0) (aCons (dC (.cls 11)) aNil))) aNil))) (aCons (dTup (aCons (dC (.str [99, 108, 111, 99, 107])) (aCons (dBi (bIsO parT parA csT) (aCons (dVar 0) (aCons (dC (.cls 1)) aNil))) aNil))) (aCons (dTup (aCons (dC (.str [108, 105, 110, 101])) (aCons (dBi (bIsO parT parA csT) (aCons (dVar 0) (aCons (dC (.cls 15)) aNil))) aNil))) aNil)))))
    (sSeq (sSet 1 (dOp oAdd (dVar 1) (dLst (aCons (dTup (aCons (dC (.str [110, 97, 109, 101])) (aCons (dBi (bIsO parT parA csT) (aCons (dVar 0) (aCons (dC (.cls 4)) aNil))) aNil))) (aCons (dTup (aCons (dC (.str [110, 117, 109, 98, 101, 114])) (aCons (dBi (bIsO parT parA csT) (aCons (dVar 0) (aCons (dC (.cls 10)) aNil))) aNil))) aNil)))))
    (sSeq (sSet 1 (dOp oAdd (dVar 1) (dLst (aCons (dTup (aCons (dC (.str [114, 111, 119])) (aCons (dBi (bIsO parT parA csT) (aCons (dVar 0) (aCons (dC (.cls 16)) aNil))) aNil))) (aCons (dTup (aCons (dC (.str [100, 97, 121, 115])) (aCons (dBi (bIsO parT parA csT) (aCons (dVar 0) (aCons (dC (.cls 2)) aNil))) aNil))) (aCons (dTup (aCons (dC (.str [112, 108, 97, 110])) (aCons (dBi (bIsO parT parA csT) (aCons (dVar 0) (aCons (dC (.cls 17)) aNil))) aNil))) aNil))))))
    (sSeq (sSet 1 (dOp oAdd (dVar 1) (dLst (aCons (dTup (aCons (dC (.str [114, 117, 108, 101])) (aCons (dBi (bIsO parT parA csT) (aCons (dVar 0) (aCons (dC (.cls 7)) aNil))) aNil))) aNil))))
    (sSeq (sSet 1 (dOp oAdd (dVar 1) (dLst (aCons (dTup (aCons (dC (.str [114, 117, 110])) (aCons (dBi (bIsO parT parA csT) (aCons (dVar 0) (aCons (dC (.cls 12)) aNil))) aNil))) (aCons (dTup (aCons (dC (.str [115, 116, 111, 112])) (aCons (dBi (bIsO parT parA csT) (aCons (dVar 0) (aCons (dC (.cls 6)) aNil))) aNil))) (aCons (dTup (aCons (dC (.str [116, 105, 99, 107, 101, 116])) (aCons (dBi (bIsO parT parA csT) (aCons (dVar 0) (aCons (dC (.cls 8)) aNil))) aNil))) aNil))))))
    (sSeq (sSet 1 (dOp oAdd (dVar 1) (dLst (aCons (dTup (aCons (dC (.str [116, 114, 97, 118, 101, 108, 108, 101, 114])) (aCons (dBi (bIsO parT parA csT) (aCons (dVar 0) (aCons (dC (.cls 14)) aNil))) aNil))) (aCons (dTup (aCons (dC (.str [116, 114, 105, 112])) (aCons (dBi (bIsO parT parA csT) (aCons (dVar 0) (aCons (dC (.cls 9)) aNil))) aNil))) aNil)))))
    (sSeq (sSet 1 (dOp oAdd (dVar 1) (dLst (aCons (dTup (aCons (dC (.str [108, 97, 116, 101])) (aCons (dBi (bIsO parT parA csT) (aCons (dVar 0) (aCons (dC (.cls 13)) aNil))) aNil))) (aCons (dTup (aCons (dC (.str [109, 97, 110, 121])) (aCons (dBi (bIsO parT parA csT) (aCons (dVar 0) (aCons (dC (.cls 3)) aNil))) aNil))) (aCons (dTup (aCons (dC (.str [116, 119, 105, 99, 101])) (aCons (dBi (bIsO parT parA csT) (aCons (dVar 0) (aCons (dC (.cls 5)) aNil))) aNil))) aNil))))))
    (sRet (dOp oAdd (dLc (itAny (dVar 1)) (tgT [(tgN 2), (tgN 3)]) (tst (dVar 3)) (dVar 2) [2, 3]) (dOp oMulA (dLst (aCons (dC (.str [101, 108, 115, 101])) aNil)) (dBi bInt (aCons (dNotV (dBi (bIsO parT parA csT) (aCons (dVar 0) (aCons (dC (.ty "ValueError")) aNil)))) aNil))))))))))))
def f__law_word : List D → Sto → Res D := mkF 4 1 g__law_word
theorem sc__law_word : FnScope N__law_word ["_law_e"] (defScope s__law_word) := ⟨rfl, rfl, rfl, by decide +kernel, rfl, by decide +kernel, by decide +kernel⟩
section
variable {P : Program} {w : World} {K : PySem.W.Frag} {mg : Str → Option Value} {base : Heap}
theorem b__law_word (Tx : Txt K mg)  {f : Addr} (cdv : Value) (A : Around) (outer : List PySem.Env) (s : Shared) (H : Hp) (E : XK) (hr : Room 0 (A.deeper (PyProof.Rows.envOfC "_law_word" (defScope s__law_word) s.heap.objs.size f cdv))) : PDb (tb K) (cxOf (L2.CX P w) P w (tb K).K mg base N__law_word "_law_word" (defScope s__law_word) f cdv A outer s H E) (defBody s__law_word) (g__law_word) :=
  (b_cons (s_set 1 sc__law_word.nd (d_lst (a_cons (d_tup (a_cons (d_str [99, 97, 108, 108, 115] (by decide +kernel)) (a_cons (d_callB (fun _ _ => call_isA) (db_isO Tx.xt Tx.ob Tx.ki) Tx.f_isinstance (by decide +kernel) (a_cons (d_var 0) (a_cons (d_cls 11 Tx.c_BadCalls) a_nil))) a_nil))) (a_cons (d_tup (a_cons (d_str [99, 108, 111, 99, 107] (by decide +kernel)) (a_cons (d_callB (fun _ _ => call_isA) (db_isO Tx.xt Tx.ob Tx.ki) Tx.f_isinstance (by decide +kernel) (a_cons (d_var 0) (a_cons (d_cls 1 Tx.c_BadClock) a_nil))) a_nil))) (a_cons (d_tup (a_cons (d_str [108, 105, 110, 101] (by decide +kernel)) (a_cons (d_callB (fun _ _ => call_isA) (db_isO Tx.xt Tx.ob Tx.ki) Tx.f_isinstance (by decide +kernel) (a_cons (d_var 0) (a_cons (d_cls 15 Tx.c_BadLine) a_nil))) a_nil))) a_nil)))))
    (b_cons (s_set 1 sc__law_word.nd (d_op (fun _ _ => op_addA) do_add (d_var 1) (d_lst (a_cons (d_tup (a_cons (d_str [110, 97, 109, 101] (by decide +kernel)) (a_cons (d_callB (fun _ _ => call_isA) (db_isO Tx.xt Tx.ob Tx.ki) Tx.f_isinstance (by decide +kernel) (a_cons (d_var 0) (a_cons (d_cls 4 Tx.c_BadName) a_nil))) a_nil))) (a_cons (d_tup (a_cons (d_str [110, 117, 109, 98, 101, 114] (by decide +kernel)) (a_cons (d_callB (fun _ _ => call_isA) (db_isO Tx.xt Tx.ob Tx.ki) Tx.f_isinstance (by decide +kernel) (a_cons (d_var 0) (a_cons (d_cls 10 Tx.c_BadNumber) a_nil))) a_nil))) a_nil)))))
    (b_cons (s_set 1 sc__law_word.nd (d_op (fun _ _ => op_addA) do_add (d_var 1) (d_lst (a_cons (d_tup (a_cons (d_str [114, 111, 119] (by decide +kernel)) (a_cons (d_callB (fun _ _ => call_isA) (db_isO Tx.xt Tx.ob Tx.ki) Tx.f_isinstance (by decide +kernel) (a_cons (d_var 0) (a_cons (d_cls 16 Tx.c_BadRow) a_nil))) a_nil))) (a_cons (d_tup (a_cons (d_str [100, 97, 121, 115] (by decide +kernel)) (a_cons (d_callB (fun _ _ => call_isA) (db_isO Tx.xt Tx.ob Tx.ki) Tx.f_isinstance (by decide +kernel) (a_cons (d_var 0) (a_cons (d_cls 2 Tx.c_BadRule) a_nil))) a_nil))) (a_cons (d_tup (a_cons (d_str [112, 108, 97, 110] (by decide +kernel)) (a_cons (d_callB (fun _ _ => call_isA) (db_isO Tx.xt Tx.ob Tx.ki) Tx.f_isinstance (by decide +kernel) (a_cons (d_var 0) (a_cons (d_cls 17 Tx.c_NoPlan) a_nil))) a_nil))) a_nil))))))
    (b_cons (s_set 1 sc__law_word.nd (d_op (fun _ _ => op_addA) do_add (d_var 1) (d_lst (a_cons (d_tup (a_cons (d_str [114, 117, 108, 101] (by decide +kernel)) (a_cons (d_callB (fun _ _ => call_isA) (db_isO Tx.xt Tx.ob Tx.ki) Tx.f_isinstance (by decide +kernel) (a_cons (d_var 0) (a_cons (d_cls 7 Tx.c_NoRule) a_nil))) a_nil))) a_nil))))
    (b_cons (s_set 1 sc__law_word.nd (d_op (fun _ _ => op_addA) do_add (d_var 1) (d_lst (a_cons (d_tup (a_cons (d_str [114, 117, 110] (by decide +kernel)) (a_cons (d_callB (fun _ _ => call_isA) (db_isO Tx.xt Tx.ob Tx.ki) Tx.f_isinstance (by decide +kernel) (a_cons (d_var 0) (a_cons (d_cls 12 Tx.c_NoRun) a_nil))) a_nil))) (a_cons (d_tup (a_cons (d_str [115, 116, 111, 112] (by decide +kernel)) (a_cons (d_callB (fun _ _ => call_isA) (db_isO Tx.xt Tx.ob Tx.ki) Tx.f_isinstance (by decide +kernel) (a_cons (d_var 0) (a_cons (d_cls 6 Tx.c_NoStop) a_nil))) a_nil))) (a_cons (d_tup (a_cons (d_str [116, 105, 99, 107, 101, 116] (by decide +kernel)) (a_cons (d_callB (fun _ _ => call_isA) (db_isO Tx.xt Tx.ob Tx.ki) Tx.f_isinstance (by decide +kernel) (a_cons (d_var 0) (a_cons (d_cls 8 Tx.c_NoTicket) a_nil))) a_nil))) a_nil))))))
    (b_cons (s_set 1 sc__law_word.nd (d_op (fun _ _ => op_addA) do_add (d_var 1) (d_lst (a_cons (d_tup (a_cons (d_str [116, 114, 97, 118, 101, 108, 108, 101, 114] (by decide +kernel)) (a_cons (d_callB (fun _ _ => call_isA) (db_isO Tx.xt Tx.ob Tx.ki) Tx.f_isinstance (by decide +kernel) (a_cons (d_var 0) (a_cons (d_cls 14 Tx.c_NoTraveller) a_nil))) a_nil))) (a_cons (d_tup (a_cons (d_str [116, 114, 105, 112] (by decide +kernel)) (a_cons (d_callB (fun _ _ => call_isA) (db_isO Tx.xt Tx.ob Tx.ki) Tx.f_isinstance (by decide +kernel) (a_cons (d_var 0) (a_cons (d_cls 9 Tx.c_NoTrip) a_nil))) a_nil))) a_nil)))))
    (b_cons (s_set 1 sc__law_word.nd (d_op (fun _ _ => op_addA) do_add (d_var 1) (d_lst (a_cons (d_tup (a_cons (d_str [108, 97, 116, 101] (by decide +kernel)) (a_cons (d_callB (fun _ _ => call_isA) (db_isO Tx.xt Tx.ob Tx.ki) Tx.f_isinstance (by decide +kernel) (a_cons (d_var 0) (a_cons (d_cls 13 Tx.c_TooLate) a_nil))) a_nil))) (a_cons (d_tup (a_cons (d_str [109, 97, 110, 121] (by decide +kernel)) (a_cons (d_callB (fun _ _ => call_isA) (db_isO Tx.xt Tx.ob Tx.ki) Tx.f_isinstance (by decide +kernel) (a_cons (d_var 0) (a_cons (d_cls 3 Tx.c_TooMany) a_nil))) a_nil))) (a_cons (d_tup (a_cons (d_str [116, 119, 105, 99, 101] (by decide +kernel)) (a_cons (d_callB (fun _ _ => call_isA) (db_isO Tx.xt Tx.ob Tx.ki) Tx.f_isinstance (by decide +kernel) (a_cons (d_var 0) (a_cons (d_cls 5 Tx.c_Twice) a_nil))) a_nil))) a_nil))))))
    (b_one (s_ret (d_op (fun _ _ => op_addA) do_add (d_lc (own := [("_law_word_here", 2), ("_law_is_so", 3)]) sc__law_word.nd (i_any (d_var 1)) (blkOk_by (sc := defScope s__law_word) (N := N__law_word) (by decide +kernel)) (fun _ _ _ _ _ => (g_tup (gs_cons (g_name 2 sc__law_word.nd) (gs_cons (g_name 3 sc__law_word.nd) gs_nil)))) (fun _ _ _ _ _ => ts_one (t_val (d_var 3))) (fun _ _ _ _ _ => (d_var 2))) (d_op (fun _ _ => op_mulA) do_mulA (d_lst (a_cons (d_str [101, 108, 115, 101] (by decide +kernel)) a_nil)) (d_callT (fun _ _ => call_intA) db_int Tx.f_int (by decide +kernel) (a_cons (d_not (d_callB (fun _ _ => call_isA) (db_isO Tx.xt Tx.ob Tx.ki) Tx.f_isinstance (by decide +kernel) (a_cons (d_var 0) (a_cons (d_ty "ValueError" Tx.f_ValueError (by decide +kernel)) a_nil)))) a_nil)))))))))))))
end
/-! ### _law_names -/
abbrev N__law_names : List Str := ["_law_script", "_law_k", "_law_many", "_law_letters", "_law_number", "_law_row", "_law_size", "_law_at", "_law_rest", "_law_j"]
def g__law_names : DS :=
  (sSeq (sSet 3 (dC (.str [97, 98, 99, 100, 101, 102, 103, 104, 105, 106, 107, 108, 109, 110, 111, 112, 113, 114, 115, 116, 117, 118, 119, 120, 121, 122])))
    (sSeq (sSet 4 (dCall f__law_draw (aCons (dVar 0) (aCons (dVar 1) aNil))))
    (sSeq (sIf (tst (dOp oEq (dOp oMod (dVar 4) (dC (.int 3))) (dC (.int 1)))) (sSeq (sSet 5 (dMt "str" mJoin (dC (.str [])) (aCons (dLc (itR1 (aCons (dC (.int 8)) aNil)) (tgN 9) cYes (dOp oIx (dVar 3) (dOp oMod (dOp oAdd (dOp oDiv (dVar 4) (dC (.int 3))) (dOp oMulA (dC (.int 5)) (dVar 9))) (dC (.int 26)))) [9]) aNil)))
    (sRet (dLc (itR1 (aCons (dVar 2) aNil)) (tgN 9) cYes (dSl (dVar 5) pNone (pSome (dOp oAdd (dC (.int 1)) (dVar 9)))) [9]))) sPass)
    (sSeq (sSet 6 (dOp oMod (dOp oDiv (dVar 4) (dC (.int 3))) (dC (.int 8))))
    (sSeq (sSet 7 (dOp oMod (dOp oDiv (dVar 4) (dC (.int 24))) (dOp oAdd (dVar 6) (dC (.int 1)))))
    (sSeq (sSet 8 (dMt "str" mJoin (dC (.str [])) (aCons (dLc (itR1 (aCons (dVar 6) aNil)) (tgN 9) cYes (dOp oIx (dVar 3) (dOp oMod (dOp oAdd (dOp oDiv (dVar 4) (dC (.int 216))) (dOp oMulA (dC (.int 7)) (dVar 9))) (dC (.int 26)))) [9]) aNil)))
    (sRet (dLc (itR1 (aCons (dVar 2) aNil)) (tgN 9) cYes (dOp oAdd (dOp oAdd (dSl (dVar 8) pNone (pSome (dVar 7))) (dOp oIx (dVar 3) (dOp oMod (dOp oAdd (dOp oDiv (dVar 4) (dC (.int 5616))) (dVar 9)) (dC (.int 26))))) (dSl (dVar 8) (pSome (dVar 7)) pNone)) [9]))))))))
def f__law_names : List D → Sto → Res D := mkF 10 3 g__law_names
theorem sc__law_names : FnScope N__law_names ["_law_script", "_law_k", "_law_many"] (defScope s__law_names) := ⟨rfl, rfl, rfl, by decide +kernel, rfl, by decide +kernel, by decide +kernel⟩
section
variable {P : Program} {w : World} {K : PySem.W.Frag} {mg : Str → Option Value} {base : Heap}
theorem b__law_names (Tx : Txt K mg) (c__law_draw : Cl (tb K) P w mg base "_law_draw" 1 2 f__law_draw) {f : Addr} (cdv : Value) (A : Around) (outer : List PySem.Env) (s : Shared) (H : Hp) (E : XK) (hr : Room 1 (A.deeper (PyProof.Rows.envOfC "_law_names" (defScope s__law_names) s.heap.objs.size f cdv))) : PDb (tb K) (cxOf (L2.CX P w) P w (tb K).K mg base N__law_names "_law_names" (defScope s__law_names) f cdv A outer s H E) (defBody s__law_names) (g__law_names) :=
  (b_cons (s_set 3 sc__law_names.nd (d_str [97, 98, 99, 100, 101, 102, 103, 104, 105, 106, 107, 108, 109, 110, 111, 112, 113, 114, 115, 116, 117, 118, 119, 120, 121, 122] (by decide +kernel)))
    (b_cons (s_set 4 sc__law_names.nd (d_call c__law_draw (a_cons (d_var 0) (a_cons (d_var 1) a_nil)) hr (by omega)))
    (b_cons (s_if (t_cmp (fun _ _ => op_eqA hr.units) do_eq (d_op (fun _ _ => op_mod) do_mod (d_var 4) d_int) d_int (nomark _)) (b_cons (s_set 5 sc__law_names.nd (d_mt PySem.F.plainAttrs_str PySem.F.slot_str_join PySem.F.type_str_join (fun _ _ => mt_join) dm_join (d_str [] (by decide +kernel)) (a_cons (d_lc (own := [("_law_j", 9)]) sc__law_names.nd (i_range1 Tx.f_range (a_cons d_int a_nil)) (blkOk_by (sc := defScope s__law_names) (N := N__law_names) (by decide +kernel)) (fun _ _ _ _ _ => (g_name 9 sc__law_names.nd)) (fun _ _ _ _ _ => ts_nil) (fun _ _ _ _ _ => (d_ix (d_var 3) (d_op (fun _ _ => op_mod) do_mod (d_op (fun _ _ => op_addA) do_add (d_op (fun _ _ => op_fdiv) do_div (d_var 4) d_int) (d_op (fun _ _ => op_mulA) do_mulA d_int (d_var 9))) d_int)))) a_nil)))
    (b_one (s_ret (d_lc (own := [("_law_j", 9)]) sc__law_names.nd (i_range1 Tx.f_range (a_cons (d_var 2) a_nil)) (blkOk_by (sc := defScope s__law_names) (N := N__law_names) (by decide +kernel)) (fun _ _ _ _ _ => (g_name 9 sc__law_names.nd)) (fun _ _ _ _ _ => ts_nil) (fun _ _ _ _ _ => (d_sl (d_var 5) o_none (o_some (d_op (fun _ _ => op_addA) do_add d_int (d_var 9))))))))) b_nil)
    (b_cons (s_set 6 sc__law_names.nd (d_op (fun _ _ => op_mod) do_mod (d_op (fun _ _ => op_fdiv) do_div (d_var 4) d_int) d_int))
    (b_cons (s_set 7 sc__law_names.nd (d_op (fun _ _ => op_mod) do_mod (d_op (fun _ _ => op_fdiv) do_div (d_var 4) d_int) (d_op (fun _ _ => op_addA) do_add (d_var 6) d_int)))
    (b_cons (s_set 8 sc__law_names.nd (d_mt PySem.F.plainAttrs_str PySem.F.slot_str_join PySem.F.type_str_join (fun _ _ => mt_join) dm_join (d_str [] (by decide +kernel)) (a_cons (d_lc (own := [("_law_j", 9)]) sc__law_names.nd (i_range1 Tx.f_range (a_cons (d_var 6) a_nil)) (blkOk_by (sc := defScope s__law_names) (N := N__law_names) (by decide +kernel)) (fun _ _ _ _ _ => (g_name 9 sc__law_names.nd)) (fun _ _ _ _ _ => ts_nil) (fun _ _ _ _ _ => (d_ix (d_var 3) (d_op (fun _ _ => op_mod) do_mod (d_op (fun _ _ => op_addA) do_add (d_op (fun _ _ => op_fdiv) do_div (d_var 4) d_int) (d_op (fun _ _ => op_mulA) do_mulA d_int (d_var 9))) d_int)))) a_nil)))
    (b_one (s_ret (d_lc (own := [("_law_j", 9)]) sc__law_names.nd (i_range1 Tx.f_range (a_cons (d_var 2) a_nil)) (blkOk_by (sc := defScope s__law_names) (N := N__law_names) (by decide +kernel)) (fun _ _ _ _ _ => (g_name 9 sc__law_names.nd)) (fun _ _ _ _ _ => ts_nil) (fun _ _ _ _ _ => (d_op (fun _ _ => op_addA) do_add (d_op (fun _ _ => op_addA) do_add (d_sl (d_var 8) o_none (o_some (d_var 7))) (d_ix (d_var 3) (d_op (fun _ _ => op_mod) do_mod (d_op (fun _ _ => op_addA) do_add (d_op (fun _ _ => op_fdiv) do_div (d_var 4) d_int) (d_var 9)) d_int))) (d_sl (d_var 8) (o_some (d_var 7)) o_none))))))))))))
end
/-! ### _law_walks -/
abbrev N__law_walks : List Str := ["_law_script", "_law_k", "_law_many", "_law_most", "_law_found", "_law_seen", "_law_j", "_law_number", "_law_one", "_law_other"]
def g__law_walks_b1 : DS :=
  (sSeq (sSet 7 (dCall f__law_draw (aCons (dVar 0) (aCons (dOp oAdd (dVar 1) (dVar 6)) aNil))))
    (sSeq (sSet 8 (dOp oMod (dVar 7) (dVar 2)))
    (sSeq (sSet 9 (dOp oMod (dOp oAdd (dOp oAdd (dVar 8) (dC (.int 1))) (dOp oMod (dOp oDiv (dVar 7) (dC (.int 8))) (dOp oSub (dVar 2) (dC (.int 1))))) (dVar 2)))
    (sIf (tAndD (tst (dOp (oInX true) (dTup (aCons (dVar 8) (aCons (dVar 9) aNil))) (dVar 5))) (tst (dOp (oInX true) (dTup (aCons (dVar 9) (aCons (dVar 8) aNil))) (dVar 5)))) (sSeq (sDrop (dMt "list" mAppend (dVar 5) (aCons (dTup (aCons (dVar 8) (aCons (dVar 9) aNil))) aNil)))
    (sDrop (dMt "list" mAppend (dVar 4) (aCons (dTup (aCons (dVar 8) (aCons (dVar 9) (aCons (dOp oAdd (dC (.int 1)) (dOp oMod (dOp oDiv (dVar 7) (dC (.int 64))) (dOp oIx (dLst (aCons (dC (.int 60)) (aCons (dC (.int 9)) (aCons (dC (.int 3)) aNil)))) (dOp oMod (dOp oDiv (dVar 7) (dC (.int 4096))) (dC (.int 3)))))) aNil)))) aNil)))) sPass))))
def g__law_walks : DS :=
  (sSeq (sSet 4 (dLstC aNil))
    (sSeq (sSet 5 (dLstC aNil))
    (sSeq (sFor (itR1 (aCons (dOp oMulA (dVar 3) (dBi bInt (aCons (dOp oGt (dVar 2) (dC (.int 1))) aNil))) aNil)) (tgN 6) g__law_walks_b1)
    (sSeq (sFrz 4) (sRet (dVar 4))))))
def f__law_walks : List D → Sto → Res D := mkF 10 4 g__law_walks
theorem sc__law_walks : FnScope N__law_walks ["_law_script", "_law_k", "_law_many", "_law_most"] (defScope s__law_walks) := ⟨rfl, rfl, rfl, by decide +kernel, rfl, by decide +kernel, by decide +kernel⟩
section
variable {P : Program} {w : World} {K : PySem.W.Frag} {mg : Str → Option Value} {base : Heap}
theorem b__law_walks (Tx : Txt K mg) (c__law_draw : Cl (tb K) P w mg base "_law_draw" 1 2 f__law_draw) {f : Addr} (cdv : Value) (A : Around) (outer : List PySem.Env) (s : Shared) (H : Hp) (E : XK) (hr : Room 1 (A.deeper (PyProof.Rows.envOfC "_law_walks" (defScope s__law_walks) s.heap.objs.size f cdv))) : PDb (tb K) (cxOf (L2.CX P w) P w (tb K).K mg base N__law_walks "_law_walks" (defScope s__law_walks) f cdv A outer s H E) (defBody s__law_walks) (g__law_walks) :=
  (b_cons (s_set 4 sc__law_walks.nd (d_lstC a_nil))
    (b_cons (s_set 5 sc__law_walks.nd (d_lstC a_nil))
    (b_cons (s_for (i_range1 Tx.f_range (a_cons (d_op (fun _ _ => op_mulA) do_mulA (d_var 3) (d_callT (fun _ _ => call_intA) db_int Tx.f_int (by decide +kernel) (a_cons (d_cmp (fun _ _ => op_gt) do_cmp (d_var 2) d_int (nomark _)) a_nil))) a_nil)) (g_name 6 sc__law_walks.nd) (b_cons (s_set 7 sc__law_walks.nd (d_call c__law_draw (a_cons (d_var 0) (a_cons (d_op (fun _ _ => op_addA) do_add (d_var 1) (d_var 6)) a_nil)) hr (by omega)))
    (b_cons (s_set 8 sc__law_walks.nd (d_op (fun _ _ => op_mod) do_mod (d_var 7) (d_var 2)))
    (b_cons (s_set 9 sc__law_walks.nd (d_op (fun _ _ => op_mod) do_mod (d_op (fun _ _ => op_addA) do_add (d_op (fun _ _ => op_addA) do_add (d_var 8) d_int) (d_op (fun _ _ => op_mod) do_mod (d_op (fun _ _ => op_fdiv) do_div (d_var 7) d_int) (d_op (fun _ _ => op_sub) do_sub (d_var 2) d_int))) (d_var 2)))
    (b_one (s_if (PDw.t (w_and (t_cmp (fun _ _ => op_notInX hr.units) do_inX (d_tup (a_cons (d_var 8) (a_cons (d_var 9) a_nil))) (d_var 5) (by rfl)) (w_and1 (t_cmp (fun _ _ => op_notInX hr.units) do_inX (d_tup (a_cons (d_var 9) (a_cons (d_var 8) a_nil))) (d_var 5) (by rfl))))) (b_cons (s_expr (d_mt PySem.F.plainAttrs_list PySem.F.slot_list_append PySem.F.type_list_append (fun _ _ => mt_append) dm_append (d_var 5) (a_cons (d_tup (a_cons (d_var 8) (a_cons (d_var 9) a_nil))) a_nil)))
    (b_one (s_expr (d_mt PySem.F.plainAttrs_list PySem.F.slot_list_append PySem.F.type_list_append (fun _ _ => mt_append) dm_append (d_var 4) (a_cons (d_tup (a_cons (d_var 8) (a_cons (d_var 9) (a_cons (d_op (fun _ _ => op_addA) do_add d_int (d_op (fun _ _ => op_mod) do_mod (d_op (fun _ _ => op_fdiv) do_div (d_var 7) d_int) (d_ix (d_lst (a_cons d_int (a_cons d_int (a_cons d_int a_nil)))) (d_op (fun _ _ => op_mod) do_mod (d_op (fun _ _ => op_fdiv) do_div (d_var 7) d_int) d_int)))) a_nil)))) a_nil))))) b_nil))))))
    (b_frz 4 (b_one (s_ret (d_var 4)))))))
end
/-! ### _law_net -/
abbrev N__law_net : List Str := ["_law_names_here", "_law_walks_here", "_law_net_here", "_law_k", "_law_name", "_law_one", "_law_other", "_law_minutes"]
def g__law_net_b1 : DS :=
  (sDrop (dMeth 7 [(19, f_Net_add_stop)] (dVar 2) (aCons (dVar 4) (aCons (dOp oAdd (dC (.int 1)) (dOp oMod (dVar 3) (dC (.int 6)))) (aCons (dOp oMod (dOp oMulA (dC (.int 5)) (dVar 3)) (dC (.int 31))) aNil)))))
def g__law_net_b2 : DS :=
  (sDrop (dMeth 7 [(19, f_Net_add_walk)] (dVar 2) (aCons (dOp oIx (dVar 0) (dVar 5)) (aCons (dOp oIx (dVar 0) (dVar 6)) (aCons (dVar 7) aNil)))))
def g__law_net : DS :=
  (sSeq (sSet 2 (dCall (mkO 19 f_Net___init__) aNil))
    (sSeq (sFor (itEnum (aCons (dVar 0) aNil)) (tgT [(tgN 3), (tgN 4)]) g__law_net_b1)
    (sSeq (sFor (itAny (dVar 1)) (tgT [(tgN 5), (tgN 6), (tgN 7)]) g__law_net_b2)
    (sRet (dVar 2)))))
def f__law_net : List D → Sto → Res D := mkF 8 2 g__law_net
theorem sc__law_net : FnScope N__law_net ["_law_names_here", "_law_walks_here"] (defScope s__law_net) := ⟨rfl, rfl, rfl, by decide +kernel, rfl, by decide +kernel, by decide +kernel⟩
section
variable {P : Program} {w : World} {K : PySem.W.Frag} {mg : Str → Option Value} {base : Heap}
theorem b__law_net (Tx : Txt K mg) (m_Net_add_stop : Mc (tb K) P w mg base 19 "add_stop" 3 4 f_Net_add_stop) (m_Net_add_walk : Mc (tb K) P w mg base 19 "add_walk" 3 4 f_Net_add_walk) (k_Net : Mkc (tb K) P w mg base 19 "Net" 1 1 f_Net___init__) {f : Addr} (cdv : Value) (A : Around) (outer : List PySem.Env) (s : Shared) (H : Hp) (E : XK) (hr : Room 3 (A.deeper (PyProof.Rows.envOfC "_law_net" (defScope s__law_net) s.heap.objs.size f cdv))) : PDb (tb K) (cxOf (L2.CX P w) P w (tb K).K mg base N__law_net "_law_net" (defScope s__law_net) f cdv A outer s H E) (defBody s__law_net) (g__law_net) :=
  (b_cons (s_set 2 sc__law_net.nd (d_make0 k_Net hr (by omega)))
    (b_cons (s_for (i_enum Tx.f_enumerate (a_cons (d_var 0) a_nil)) (g_tup (gs_cons (g_name 3 sc__law_net.nd) (gs_cons (g_name 4 sc__law_net.nd) gs_nil))) (b_one (s_expr (d_meth (nF := 7) (j := 3) (tbl := [(19, f_Net_add_stop)]) ⟨⟨m_Net_add_stop.up (by omega), rfl⟩, trivial⟩ nm_add_stop (d_var 2) (a_cons (d_var 4) (a_cons (d_op (fun _ _ => op_addA) do_add d_int (d_op (fun _ _ => op_mod) do_mod (d_var 3) d_int)) (a_cons (d_op (fun _ _ => op_mod) do_mod (d_op (fun _ _ => op_mulA) do_mulA d_int (d_var 3)) d_int) a_nil))) hr))))
    (b_cons (s_for (i_any (d_var 1)) (g_tup (gs_cons (g_name 5 sc__law_net.nd) (gs_cons (g_name 6 sc__law_net.nd) (gs_cons (g_name 7 sc__law_net.nd) gs_nil)))) (b_one (s_expr (d_meth (nF := 7) (j := 3) (tbl := [(19, f_Net_add_walk)]) ⟨⟨m_Net_add_walk.up (by omega), rfl⟩, trivial⟩ nm_add_walk (d_var 2) (a_cons (d_ix (d_var 0) (d_var 5)) (a_cons (d_ix (d_var 0) (d_var 6)) (a_cons (d_var 7) a_nil))) hr))))
    (b_one (s_ret (d_var 2))))))
end
/-! ### _law_table -/
abbrev N__law_table : List Str := ["_law_many", "_law_walks_here", "_law_table_here", "_law_one", "_law_turn", "_law_first", "_law_second", "_law_minutes", "_law_here", "_law_there", "_law_far"]
def g__law_table_b1 : DS :=
  (sIf (tst (dOp (oIs true) (dOp oIx (dOp oIx (dVar 2) (dVar 3)) (dVar 8)) (dC .non))) (sSeq (sSet 10 (dOp oAdd (dOp oIx (dOp oIx (dVar 2) (dVar 3)) (dVar 8)) (dVar 7)))
    (sIf (tOrD (tst (dOp (oIs false) (dOp oIx (dOp oIx (dVar 2) (dVar 3)) (dVar 9)) (dC .non))) (tst (dOp oLt (dVar 10) (dOp oIx (dOp oIx (dVar 2) (dVar 3)) (dVar 9))))) (sIxS (dVar 10) (dOp oIx (dVar 2) (dVar 3)) (dVar 9)) sPass)) sPass)
def g__law_table_b2 : DS :=
  (sFor (itAny (dTup (aCons (dTup (aCons (dVar 5) (aCons (dVar 6) aNil))) (aCons (dTup (aCons (dVar 6) (aCons (dVar 5) aNil))) aNil)))) (tgT [(tgN 8), (tgN 9)]) g__law_table_b1)
def g__law_table_b3 : DS :=
  (sFor (itAny (dVar 1)) (tgT [(tgN 5), (tgN 6), (tgN 7)]) g__law_table_b2)
def g__law_table_b4 : DS :=
  (sSeq (sIxS (dC (.int 0)) (dOp oIx (dVar 2) (dVar 3)) (dVar 3))
    (sFor (itR1 (aCons (dVar 0) aNil)) (tgN 4) g__law_table_b3))
def g__law_table : DS :=
  (sSeq (sSet 2 (dLc (itR1 (aCons (dVar 0) aNil)) (tgN 3) cYes (dOp oMulC (dLst (aCons (dC .non) aNil)) (dVar 0)) [3]))
    (sSeq (sFor (itR1 (aCons (dVar 0) aNil)) (tgN 3) g__law_table_b4)
    (sSeq (sFrzN 2) (sRet (dVar 2)))))
def f__law_table : List D → Sto → Res D := mkF 11 2 g__law_table
theorem sc__law_table : FnScope N__law_table ["_law_many", "_law_walks_here"] (defScope s__law_table) := ⟨rfl, rfl, rfl, by decide +kernel, rfl, by decide +kernel, by decide +kernel⟩
section
variable {P : Program} {w : World} {K : PySem.W.Frag} {mg : Str → Option Value} {base : Heap}
theorem b__law_table (Tx : Txt K mg)  {f : Addr} (cdv : Value) (A : Around) (outer : List PySem.Env) (s : Shared) (H : Hp) (E : XK) (hr : Room 0 (A.deeper (PyProof.Rows.envOfC "_law_table" (defScope s__law_table) s.heap.objs.size f cdv))) : PDb (tb K) (cxOf (L2.CX P w) P w (tb K).K mg base N__law_table "_law_table" (defScope s__law_table) f cdv A outer s H E) (defBody s__law_table) (g__law_table) :=
  (b_cons (s_setLc 2 (own := [("_law_one", 3)]) sc__law_table.nd (i_range1 Tx.f_range (a_cons (d_var 0) a_nil)) (blkOk_by (sc := defScope s__law_table) (N := N__law_table) (by decide +kernel)) (fun _ _ _ _ _ => (g_name 3 sc__law_table.nd)) (fun _ _ _ _ _ => ts_nil) (fun _ _ _ _ _ => (d_op (fun _ _ => op_mulA) do_mulC (d_lst (a_cons d_non a_nil)) (d_var 0))) (sw_true rfl rfl rfl (by decide +kernel)))
    (b_cons (s_for (i_range1 Tx.f_range (a_cons (d_var 0) a_nil)) (g_name 3 sc__law_table.nd) (b_cons (s_ixS d_int (d_ix (d_var 2) (d_var 3)) (d_var 3))
    (b_one (s_for (i_range1 Tx.f_range (a_cons (d_var 0) a_nil)) (g_name 4 sc__law_table.nd) (b_one (s_for (i_any (d_var 1)) (g_tup (gs_cons (g_name 5 sc__law_table.nd) (gs_cons (g_name 6 sc__law_table.nd) (gs_cons (g_name 7 sc__law_table.nd) gs_nil)))) (b_one (s_for (i_any (d_tup (a_cons (d_tup (a_cons (d_var 5) (a_cons (d_var 6) a_nil))) (a_cons (d_tup (a_cons (d_var 6) (a_cons (d_var 5) a_nil))) a_nil)))) (g_tup (gs_cons (g_name 8 sc__law_table.nd) (gs_cons (g_name 9 sc__law_table.nd) gs_nil))) (b_one (s_if (t_cmp (fun _ _ => op_notN) do_isnot (d_ix (d_ix (d_var 2) (d_var 3)) (d_var 8)) d_non (nomark _)) (b_cons (s_set 10 sc__law_table.nd (d_op (fun _ _ => op_addA) do_add (d_ix (d_ix (d_var 2) (d_var 3)) (d_var 8)) (d_var 7)))
    (b_one (s_if (PDw.t (w_or (t_cmp (fun _ _ => op_isN) do_is (d_ix (d_ix (d_var 2) (d_var 3)) (d_var 9)) d_non (nomark _)) (w_or1 (t_cmp (fun _ _ => op_lt) do_cmp (d_var 10) (d_ix (d_ix (d_var 2) (d_var 3)) (d_var 9)) (nomark _))))) (b_one (s_ixS (d_var 10) (d_ix (d_var 2) (d_var 3)) (d_var 9))) b_nil))) b_nil))))))))))
    (b_frzN 2 (b_one (s_ret (d_var 2))))))
end
/-! ### _law_way_right -/
abbrev N__law_way_right : List Str := ["_law_way", "_law_names_here", "_law_walks_here", "_law_one", "_law_other", "_law_due", "_law_spent", "_law_here", "_law_there", "_law_some", "_law_row"]
def g__law_way_right_b1 : DS :=
  (sSeq (sSet 9 (dLc (itAny (dVar 2)) (tgN 10) (tst (dOp (oInX false) (dTup (aCons (dOp oIx (dVar 1) (dOp oIx (dVar 10) (dC (.int 0)))) (aCons (dOp oIx (dVar 1) (dOp oIx (dVar 10) (dC (.int 1)))) aNil))) (dTup (aCons (dTup (aCons (dVar 7) (aCons (dVar 8) aNil))) (aCons (dTup (aCons (dVar 8) (aCons (dVar 7) aNil))) aNil))))) (dOp oIx (dVar 10) (dC (.int 2))) [10]))
    (sSeq (sIf (tst (dOp oEq (dVar 9) (dLst aNil))) (sRet (dC (.bl false))) sPass)
    (sSet 6 (dOp oAdd (dVar 6) (dOp oIx (dVar 9) (dC (.int 0)))))))
def g__law_way_right : DS :=
  (sSeq (sIf (tst (dOp (oIs false) (dVar 5) (dC .non))) (sRet (dOp (oIs false) (dVar 0) (dC .non))) sPass)
    (sSeq (sIf (tOrD (tNotD (tst (dBi (bIsO parT parA csT) (aCons (dVar 0) (aCons (dC (.ty "list")) aNil))))) (tOrD (tst (dOp oEq (dVar 0) (dLst aNil))) (tOrD (tst (dOp oNe (dOp oIx (dVar 0) (dC (.int 0))) (dOp oIx (dVar 1) (dVar 3)))) (tst (dOp oNe (dOp oIx (dVar 0) (dUn (fun i => -i) (dC (.int 1)))) (dOp oIx (dVar 1) (dVar 4))))))) (sRet (dC (.bl false))) sPass)
    (sSeq (sSet 6 (dC (.int 0)))
    (sSeq (sForZ (aCons (dVar 0) (aCons (dSl (dVar 0) (pSome (dC (.int 1))) pNone) aNil)) (tgT [(tgN 7), (tgN 8)]) g__law_way_right_b1)
    (sRet (dOp oEq (dVar 6) (dVar 5)))))))
def f__law_way_right : List D → Sto → Res D := mkF 11 6 g__law_way_right
theorem sc__law_way_right : FnScope N__law_way_right ["_law_way", "_law_names_here", "_law_walks_here", "_law_one", "_law_other", "_law_due"] (defScope s__law_way_right) := ⟨rfl, rfl, rfl, by decide +kernel, rfl, by decide +kernel, by decide +kernel⟩
section
variable {P : Program} {w : World} {K : PySem.W.Frag} {mg : Str → Option Value} {base : Heap}
theorem b__law_way_right (Tx : Txt K mg)  {f : Addr} (cdv : Value) (A : Around) (outer : List PySem.Env) (s : Shared) (H : Hp) (E : XK) (hr : Room 0 (A.deeper (PyProof.Rows.envOfC "_law_way_right" (defScope s__law_way_right) s.heap.objs.size f cdv))) : PDb (tb K) (cxOf (L2.CX P w) P w (tb K).K mg base N__law_way_right "_law_way_right" (defScope s__law_way_right) f cdv A outer s H E) (defBody s__law_way_right) (g__law_way_right) :=
  (b_cons (s_if (t_cmp (fun _ _ => op_isN) do_is (d_var 5) d_non (nomark _)) (b_one (s_ret (d_cmp (fun _ _ => op_isN) do_is (d_var 0) d_non (nomark _)))) b_nil)
    (b_cons (s_if (PDw.t (w_or (t_not (t_val (d_callB (fun _ _ => call_isA) (db_isO Tx.xt Tx.ob Tx.ki) Tx.f_isinstance (by decide +kernel) (a_cons (d_var 0) (a_cons (d_ty "list" Tx.f_list (by decide +kernel)) a_nil))))) (w_or (t_cmp (fun _ _ => op_eqA hr.units) do_eq (d_var 0) (d_lst a_nil) (nomark _)) (w_or (t_cmp (fun _ _ => op_neA hr.units) do_ne (d_ix (d_var 0) d_int) (d_ix (d_var 1) (d_var 3)) (nomark _)) (w_or1 (t_cmp (fun _ _ => op_neA hr.units) do_ne (d_ix (d_var 0) (d_neg d_int)) (d_ix (d_var 1) (d_var 4)) (nomark _))))))) (b_one (s_ret d_bl)) b_nil)
    (b_cons (s_set 6 sc__law_way_right.nd d_int)
    (b_cons (s_forZ Tx.f_zip (a_cons (d_var 0) (a_cons (d_sl (d_var 0) (o_some d_int) o_none) a_nil)) (g_tup (gs_cons (g_name 7 sc__law_way_right.nd) (gs_cons (g_name 8 sc__law_way_right.nd) gs_nil))) (b_cons (s_setLc 9 (own := [("_law_row", 10)]) sc__law_way_right.nd (i_any (d_var 2)) (blkOk_by (sc := defScope s__law_way_right) (N := N__law_way_right) (by decide +kernel)) (fun _ _ _ _ _ => (g_name 10 sc__law_way_right.nd)) (fun _ _ _ _ _ => ts_one (t_cmp (fun _ _ => op_inX hr.units) do_inX (d_tup (a_cons (d_ix (d_var 1) (d_ix (d_var 10) d_int)) (a_cons (d_ix (d_var 1) (d_ix (d_var 10) d_int)) a_nil))) (d_tup (a_cons (d_tup (a_cons (d_var 7) (a_cons (d_var 8) a_nil))) (a_cons (d_tup (a_cons (d_var 8) (a_cons (d_var 7) a_nil))) a_nil))) (by rfl))) (fun _ _ _ _ _ => (d_ix (d_var 10) d_int)) (sw_true rfl rfl rfl (by decide +kernel)))
    (b_cons (s_if (t_cmp (fun _ _ => op_eqA hr.units) do_eq (d_var 9) (d_lst a_nil) (nomark _)) (b_one (s_ret d_bl)) b_nil)
    (b_one (s_set 6 sc__law_way_right.nd (d_op (fun _ _ => op_addA) do_add (d_var 6) (d_ix (d_var 9) d_int)))))))
    (b_one (s_ret (d_cmp (fun _ _ => op_eqA hr.units) do_eq (d_var 6) (d_var 5) (nomark _))))))))
end
/-! ### _law_right -/
abbrev N__law_right : List Str := ["_law_feet", "_law_names_here", "_law_walks_here", "_law_table_here", "_law_one", "_law_other", "_law_due", "_law_found", "_law_way"]
def g__law_right : DS :=
  (sSeq (sSet 6 (dOp oIx (dOp oIx (dVar 3) (dVar 4)) (dVar 5)))
    (sSeq (sSet 7 (dMeth 7 [(18, f_Feet_minutes)] (dVar 0) (aCons (dOp oIx (dVar 1) (dVar 4)) (aCons (dOp oIx (dVar 1) (dVar 5)) aNil))))
    (sSeq (sIf (tOrD (tst (dOp oNe (dVar 7) (dVar 6))) (tOrD (tst (dBi (bIsO parT parA csT) (aCons (dVar 7) (aCons (dC (.ty "bool")) aNil)))) (tAndD (tst (dOp (oIs true) (dVar 7) (dC .non))) (tNotD (tst (dBi (bIsO parT parA csT) (aCons (dVar 7) (aCons (dC (.ty "int")) aNil)))))))) (sRet (dC (.bl false))) sPass)
    (sSeq (sSet 8 (dMeth 7 [(18, f_Feet_way)] (dVar 0) (aCons (dOp oIx (dVar 1) (dVar 4)) (aCons (dOp oIx (dVar 1) (dVar 5)) aNil))))
    (sSeq (sIf (tNotD (tst (dCall f__law_way_right (aCons (dVar 8) (aCons (dVar 1) (aCons (dVar 2) (aCons (dVar 4) (aCons (dVar 5) (aCons (dVar 6) aNil))))))))) (sRet (dC (.bl false))) sPass)
    (sSeq (sIf (tst (dOp (oIs true) (dVar 8) (dC .non))) (sSeq (sDrop (dMt "list" mReverse (dVar 8) aNil))
    (sDrop (dMt "list" mAppend (dVar 8) (aCons (dC (.str [109, 111, 114, 101])) aNil)))) sPass)
    (sRet (dCall f__law_way_right (aCons (dMeth 7 [(18, f_Feet_way)] (dVar 0) (aCons (dOp oIx (dVar 1) (dVar 4)) (aCons (dOp oIx (dVar 1) (dVar 5)) aNil))) (aCons (dVar 1) (aCons (dVar 2) (aCons (dVar 4) (aCons (dVar 5) (aCons (dVar 6) aNil))))))))))))))
def f__law_right : List D → Sto → Res D := mkF 9 6 g__law_right
theorem sc__law_right : FnScope N__law_right ["_law_feet", "_law_names_here", "_law_walks_here", "_law_table_here", "_law_one", "_law_other"] (defScope s__law_right) := ⟨rfl, rfl, rfl, by decide +kernel, rfl, by decide +kernel, by decide +kernel⟩
section
variable {P : Program} {w : World} {K : PySem.W.Frag} {mg : Str → Option Value} {base : Heap}
theorem b__law_right (Tx : Txt K mg) (c__law_way_right : Cl (tb K) P w mg base "_law_way_right" 1 6 f__law_way_right) (m_Feet_minutes : Mc (tb K) P w mg base 18 "minutes" 3 3 f_Feet_minutes) (m_Feet_way : Mc (tb K) P w mg base 18 "way" 3 3 f_Feet_way) {f : Addr} (cdv : Value) (A : Around) (outer : List PySem.Env) (s : Shared) (H : Hp) (E : XK) (hr : Room 3 (A.deeper (PyProof.Rows.envOfC "_law_right" (defScope s__law_right) s.heap.objs.size f cdv))) : PDb (tb K) (cxOf (L2.CX P w) P w (tb K).K mg base N__law_right "_law_right" (defScope s__law_right) f cdv A outer s H E) (defBody s__law_right) (g__law_right) :=
  (b_cons (s_set 6 sc__law_right.nd (d_ix (d_ix (d_var 3) (d_var 4)) (d_var 5)))
    (b_cons (s_set 7 sc__law_right.nd (d_meth (nF := 7) (j := 3) (tbl := [(18, f_Feet_minutes)]) ⟨⟨m_Feet_minutes.up (by omega), rfl⟩, trivial⟩ nm_minutes (d_var 0) (a_cons (d_ix (d_var 1) (d_var 4)) (a_cons (d_ix (d_var 1) (d_var 5)) a_nil)) hr))
    (b_cons (s_if (PDw.t (w_or (t_cmp (fun _ _ => op_neA hr.units) do_ne (d_var 7) (d_var 6) (nomark _)) (w_or (t_val (d_callB (fun _ _ => call_isA) (db_isO Tx.xt Tx.ob Tx.ki) Tx.f_isinstance (by decide +kernel) (a_cons (d_var 7) (a_cons (d_ty "bool" Tx.f_bool (by decide +kernel)) a_nil)))) (w_or1 (PDw.t (w_and (t_cmp (fun _ _ => op_notN) do_isnot (d_var 7) d_non (nomark _)) (w_and1 (t_not (t_val (d_callB (fun _ _ => call_isA) (db_isO Tx.xt Tx.ob Tx.ki) Tx.f_isinstance (by decide +kernel) (a_cons (d_var 7) (a_cons (d_ty "int" Tx.f_int (by decide +kernel)) a_nil)))))))))))) (b_one (s_ret d_bl)) b_nil)
    (b_cons (s_set 8 sc__law_right.nd (d_meth (nF := 7) (j := 3) (tbl := [(18, f_Feet_way)]) ⟨⟨m_Feet_way.up (by omega), rfl⟩, trivial⟩ nm_way (d_var 0) (a_cons (d_ix (d_var 1) (d_var 4)) (a_cons (d_ix (d_var 1) (d_var 5)) a_nil)) hr))
    (b_cons (s_if (t_not (t_val (d_call c__law_way_right (a_cons (d_var 8) (a_cons (d_var 1) (a_cons (d_var 2) (a_cons (d_var 4) (a_cons (d_var 5) (a_cons (d_var 6) a_nil)))))) hr (by omega)))) (b_one (s_ret d_bl)) b_nil)
    (b_cons (s_if (t_cmp (fun _ _ => op_notN) do_isnot (d_var 8) d_non (nomark _)) (b_cons (s_expr (d_mt0 PySem.F.plainAttrs_list PySem.F.slot_list_reverse PySem.F.type_list_reverse (fun _ _ => mt_reverse) dm_reverse (d_var 8)))
    (b_one (s_expr (d_mt PySem.F.plainAttrs_list PySem.F.slot_list_append PySem.F.type_list_append (fun _ _ => mt_append) dm_append (d_var 8) (a_cons (d_str [109, 111, 114, 101] (by decide +kernel)) a_nil))))) b_nil)
    (b_one (s_ret (d_call c__law_way_right (a_cons (d_meth (nF := 7) (j := 3) (tbl := [(18, f_Feet_way)]) ⟨⟨m_Feet_way.up (by omega), rfl⟩, trivial⟩ nm_way (d_var 0) (a_cons (d_ix (d_var 1) (d_var 4)) (a_cons (d_ix (d_var 1) (d_var 5)) a_nil)) hr) (a_cons (d_var 1) (a_cons (d_var 2) (a_cons (d_var 4) (a_cons (d_var 5) (a_cons (d_var 6) a_nil)))))) hr (by omega))))))))))
end
/-! ### _law_refused -/
abbrev N__law_refused : List Str := ["_law_feet", "_law_way", "_law_one", "_law_other", "_law_caught", "_law_e"]
def g__law_refused_b1 : DS :=
  (sIf (tst (dOp oEq (dVar 1) (dC (.int 0)))) (sDrop (dMeth 7 [(18, f_Feet_minutes)] (dVar 0) (aCons (dVar 2) (aCons (dVar 3) aNil)))) (sDrop (dMeth 7 [(18, f_Feet_way)] (dVar 0) (aCons (dVar 2) (aCons (dVar 3) aNil)))))
def g__law_refused : DS :=
  (sSeq (sSet 4 (dC .non))
    (sSeq (sTry (ancO parT) 0 (some 5) g__law_refused_b1 (sSet 4 (dVar 5)))
    (sRet (dIfE (tst (dOp (oIs false) (dVar 4) (dC .non))) (dLst aNil) (dCall f__law_word (aCons (dVar 4) aNil))))))
def f__law_refused : List D → Sto → Res D := mkF 6 4 g__law_refused
theorem sc__law_refused : FnScope N__law_refused ["_law_feet", "_law_way", "_law_one", "_law_other"] (defScope s__law_refused) := ⟨rfl, rfl, rfl, by decide +kernel, rfl, by decide +kernel, by decide +kernel⟩
section
variable {P : Program} {w : World} {K : PySem.W.Frag} {mg : Str → Option Value} {base : Heap}
theorem b__law_refused (Tx : Txt K mg) (c__law_word : Cl (tb K) P w mg base "_law_word" 1 1 f__law_word) (m_Feet_minutes : Mc (tb K) P w mg base 18 "minutes" 3 3 f_Feet_minutes) (m_Feet_way : Mc (tb K) P w mg base 18 "way" 3 3 f_Feet_way) {f : Addr} (cdv : Value) (A : Around) (outer : List PySem.Env) (s : Shared) (H : Hp) (E : XK) (hr : Room 3 (A.deeper (PyProof.Rows.envOfC "_law_refused" (defScope s__law_refused) s.heap.objs.size f cdv))) : PDb (tb K) (cxOf (L2.CX P w) P w (tb K).K mg base N__law_refused "_law_refused" (defScope s__law_refused) f cdv A outer s H E) (defBody s__law_refused) (g__law_refused) :=
  (b_cons (s_set 4 sc__law_refused.nd d_non)
    (b_cons (s_tryA 0 5 Tx.xt sc__law_refused.nd Tx.c_RoadError (b_one (s_if (t_cmp (fun _ _ => op_eqA hr.units) do_eq (d_var 1) d_int (nomark _)) (b_one (s_expr (d_meth (nF := 7) (j := 3) (tbl := [(18, f_Feet_minutes)]) ⟨⟨m_Feet_minutes.up (by omega), rfl⟩, trivial⟩ nm_minutes (d_var 0) (a_cons (d_var 2) (a_cons (d_var 3) a_nil)) hr))) (b_one (s_expr (d_meth (nF := 7) (j := 3) (tbl := [(18, f_Feet_way)]) ⟨⟨m_Feet_way.up (by omega), rfl⟩, trivial⟩ nm_way (d_var 0) (a_cons (d_var 2) (a_cons (d_var 3) a_nil)) hr))))) (fun _ _ => (b_one (s_set 4 sc__law_refused.nd (d_var 5)))))
    (b_one (s_ret (d_ifE (t_cmp (fun _ _ => op_isN) do_is (d_var 4) d_non (nomark _)) (d_lst a_nil) (d_call c__law_word (a_cons (d_var 4) a_nil) hr (by omega)))))))
end
/-! ### _law_goes_on -/
abbrev N__law_goes_on : List Str := ["_law_net_here", "_law_feet", "_law_names_here", "_law_walks_here", "_law_table_here", "_law_last", "_law_row"]
def g__law_goes_on : DS :=
  (sSeq (sIf (tst (dOp oLt (dBi bLen (aCons (dVar 2) aNil)) (dC (.int 8)))) (sSeq (sDrop (dMeth 7 [(19, f_Net_add_stop)] (dVar 0) (aCons (dC (.str [102, 114, 101, 115, 104])) (aCons (dC (.int 1)) (aCons (dC (.int 0)) aNil)))))
    (sSeq (sDrop (dMeth 7 [(19, f_Net_add_walk)] (dVar 0) (aCons (dC (.str [102, 114, 101, 115, 104])) (aCons (dOp oIx (dVar 2) (dC (.int 0))) (aCons (dC (.int 1)) aNil)))))
    (sIf (tOrD (tst (dOp oNe (dMeth 7 [(18, f_Feet_minutes)] (dCall (mkO 18 f_Feet___init__) (aCons (dVar 0) aNil)) (aCons (dOp oIx (dVar 2) (dC (.int 0))) (aCons (dC (.str [102, 114, 101, 115, 104])) aNil))) (dC (.int 1)))) (tst (dOp oNe (dCall f__law_refused (aCons (dVar 1) (aCons (dC (.int 0)) (aCons (dOp oIx (dVar 2) (dC (.int 0))) (aCons (dC (.str [102, 114, 101, 115, 104])) aNil))))) (dLst (aCons (dC (.str [115, 116, 111, 112])) aNil))))) (sRet (dC (.bl false))) sPass))) sPass)
    (sSeq (sIf (tAndD (tst (dOp oGt (dBi bLen (aCons (dVar 2) aNil)) (dC (.int 1)))) (tst (dOp oEq (dLc (itAny (dVar 3)) (tgN 6) (tst (dOp (oInX false) (dSl (dVar 6) pNone (pSome (dC (.int 2)))) (dTup (aCons (dTup (aCons (dC (.int 0)) (aCons (dC (.int 1)) aNil))) (aCons (dTup (aCons (dC (.int 1)) (aCons (dC (.int 0)) aNil))) aNil))))) (dVar 6) [6]) (dLst aNil)))) (sSeq (sDrop (dMeth 7 [(19, f_Net_add_walk)] (dVar 0) (aCons (dOp oIx (dVar 2) (dC (.int 1))) (aCons (dOp oIx (dVar 2) (dC (.int 0))) (aCons (dC (.int 1)) aNil)))))
    (sIf (tst (dOp oNe (dMeth 7 [(18, f_Feet_minutes)] (dCall (mkO 18 f_Feet___init__) (aCons (dVar 0) aNil)) (aCons (dOp oIx (dVar 2) (dC (.int 0))) (aCons (dOp oIx (dVar 2) (dC (.int 1))) aNil))) (dC (.int 1)))) (sRet (dC (.bl false))) sPass)) sPass)
    (sSeq (sSet 5 (dOp oSub (dBi bLen (aCons (dVar 2) aNil)) (dC (.int 1))))
    (sRet (dAndV (dCall f__law_right (aCons (dVar 1) (aCons (dVar 2) (aCons (dVar 3) (aCons (dVar 4) (aCons (dC (.int 0)) (aCons (dVar 5) aNil))))))) (dCall f__law_right (aCons (dVar 1) (aCons (dVar 2) (aCons (dVar 3) (aCons (dVar 4) (aCons (dVar 5) (aCons (dBi bMin2 (aCons (dC (.int 1)) (aCons (dVar 5) aNil))) aNil))))))))))))
def f__law_goes_on : List D → Sto → Res D := mkF 7 5 g__law_goes_on
theorem sc__law_goes_on : FnScope N__law_goes_on ["_law_net_here", "_law_feet", "_law_names_here", "_law_walks_here", "_law_table_here"] (defScope s__law_goes_on) := ⟨rfl, rfl, rfl, by decide +kernel, rfl, by decide +kernel, by decide +kernel⟩
section
variable {P : Program} {w : World} {K : PySem.W.Frag} {mg : Str → Option Value} {base : Heap}
theorem b__law_goes_on (Tx : Txt K mg) (c__law_refused : Cl (tb K) P w mg base "_law_refused" 4 4 f__law_refused) (c__law_right : Cl (tb K) P w mg base "_law_right" 4 6 f__law_right) (m_Net_add_stop : Mc (tb K) P w mg base 19 "add_stop" 3 4 f_Net_add_stop) (m_Net_add_walk : Mc (tb K) P w mg base 19 "add_walk" 3 4 f_Net_add_walk) (m_Feet_minutes : Mc (tb K) P w mg base 18 "minutes" 3 3 f_Feet_minutes) (k_Feet : Mkc (tb K) P w mg base 18 "Feet" 2 2 f_Feet___init__) {f : Addr} (cdv : Value) (A : Around) (outer : List PySem.Env) (s : Shared) (H : Hp) (E : XK) (hr : Room 4 (A.deeper (PyProof.Rows.envOfC "_law_goes_on" (defScope s__law_goes_on) s.heap.objs.size f cdv))) : PDb (tb K) (cxOf (L2.CX P w) P w (tb K).K mg base N__law_goes_on "_law_goes_on" (defScope s__law_goes_on) f cdv A outer s H E) (defBody s__law_goes_on) (g__law_goes_on) :=
  (b_cons (s_if (t_cmp (fun _ _ => op_lt) do_cmp (d_callB (fun _ _ => call_len) db_len Tx.f_len (by decide +kernel) (a_cons (d_var 2) a_nil)) d_int (nomark _)) (b_cons (s_expr (d_meth (nF := 7) (j := 4) (tbl := [(19, f_Net_add_stop)]) ⟨⟨m_Net_add_stop.up (by omega), rfl⟩, trivial⟩ nm_add_stop (d_var 0) (a_cons (d_str [102, 114, 101, 115, 104] (by decide +kernel)) (a_cons d_int (a_cons d_int a_nil))) hr))
    (b_cons (s_expr (d_meth (nF := 7) (j := 4) (tbl := [(19, f_Net_add_walk)]) ⟨⟨m_Net_add_walk.up (by omega), rfl⟩, trivial⟩ nm_add_walk (d_var 0) (a_cons (d_str [102, 114, 101, 115, 104] (by decide +kernel)) (a_cons (d_ix (d_var 2) d_int) (a_cons d_int a_nil))) hr))
    (b_one (s_if (PDw.t (w_or (t_cmp (fun _ _ => op_neA hr.units) do_ne (d_meth (nF := 7) (j := 4) (tbl := [(18, f_Feet_minutes)]) ⟨⟨m_Feet_minutes.up (by omega), rfl⟩, trivial⟩ nm_minutes (d_make k_Feet (a_cons (d_var 0) a_nil) hr (by omega)) (a_cons (d_ix (d_var 2) d_int) (a_cons (d_str [102, 114, 101, 115, 104] (by decide +kernel)) a_nil)) hr) d_int (nomark _)) (w_or1 (t_cmp (fun _ _ => op_neA hr.units) do_ne (d_call c__law_refused (a_cons (d_var 1) (a_cons d_int (a_cons (d_ix (d_var 2) d_int) (a_cons (d_str [102, 114, 101, 115, 104] (by decide +kernel)) a_nil)))) hr (by omega)) (d_lst (a_cons (d_str [115, 116, 111, 112] (by decide +kernel)) a_nil)) (nomark _))))) (b_one (s_ret d_bl)) b_nil)))) b_nil)
    (b_cons (s_if (PDw.t (w_and (t_cmp (fun _ _ => op_gt) do_cmp (d_callB (fun _ _ => call_len) db_len Tx.f_len (by decide +kernel) (a_cons (d_var 2) a_nil)) d_int (nomark _)) (w_and1 (t_cmp (fun _ _ => op_eqA hr.units) do_eq (d_lc (own := [("_law_row", 6)]) sc__law_goes_on.nd (i_any (d_var 3)) (blkOk_by (sc := defScope s__law_goes_on) (N := N__law_goes_on) (by decide +kernel)) (fun _ _ _ _ _ => (g_name 6 sc__law_goes_on.nd)) (fun _ _ _ _ _ => ts_one (t_cmp (fun _ _ => op_inX hr.units) do_inX (d_sl (d_var 6) o_none (o_some d_int)) (d_tup (a_cons (d_tup (a_cons d_int (a_cons d_int a_nil))) (a_cons (d_tup (a_cons d_int (a_cons d_int a_nil))) a_nil))) (by rfl))) (fun _ _ _ _ _ => (d_var 6))) (d_lst a_nil) (nomark _))))) (b_cons (s_expr (d_meth (nF := 7) (j := 4) (tbl := [(19, f_Net_add_walk)]) ⟨⟨m_Net_add_walk.up (by omega), rfl⟩, trivial⟩ nm_add_walk (d_var 0) (a_cons (d_ix (d_var 2) d_int) (a_cons (d_ix (d_var 2) d_int) (a_cons d_int a_nil))) hr))
    (b_one (s_if (t_cmp (fun _ _ => op_neA hr.units) do_ne (d_meth (nF := 7) (j := 4) (tbl := [(18, f_Feet_minutes)]) ⟨⟨m_Feet_minutes.up (by omega), rfl⟩, trivial⟩ nm_minutes (d_make k_Feet (a_cons (d_var 0) a_nil) hr (by omega)) (a_cons (d_ix (d_var 2) d_int) (a_cons (d_ix (d_var 2) d_int) a_nil)) hr) d_int (nomark _)) (b_one (s_ret d_bl)) b_nil))) b_nil)
    (b_cons (s_set 5 sc__law_goes_on.nd (d_op (fun _ _ => op_sub) do_sub (d_callB (fun _ _ => call_len) db_len Tx.f_len (by decide +kernel) (a_cons (d_var 2) a_nil)) d_int))
    (b_one (s_ret (d_and (d_call c__law_right (a_cons (d_var 1) (a_cons (d_var 2) (a_cons (d_var 3) (a_cons (d_var 4) (a_cons d_int (a_cons (d_var 5) a_nil)))))) hr (by omega)) (d_one (d_call c__law_right (a_cons (d_var 1) (a_cons (d_var 2) (a_cons (d_var 3) (a_cons (d_var 4) (a_cons (d_var 5) (a_cons (d_callB (fun _ _ => call_min2 rfl) db_2I Tx.f_min (by decide +kernel) (a_cons d_int (a_cons (d_var 5) a_nil))) a_nil)))))) hr (by omega)))))))))
end
/-! ### law -/
abbrev N_law : List Str := ["_law_script", "_law_number", "_law_many", "_law_names_here", "_law_walks_here", "_law_net_here", "_law_feet", "_law_table_here", "_law_one", "_law_other", "_law_odd", "_law_way"]
def g_law_b1 : DS :=
  (sIf (tNotD (tst (dCall f__law_right (aCons (dVar 6) (aCons (dVar 3) (aCons (dVar 4) (aCons (dVar 7) (aCons (dVar 8) (aCons (dVar 9) aNil))))))))) (sRet (dC (.bl false))) sPass)
def g_law_b2 : DS :=
  (sFor (itR1 (aCons (dVar 2) aNil)) (tgN 9) g_law_b1)
def g_law_b3 : DS :=
  (sIf (tOrD (tst (dOp oNe (dCall f__law_refused (aCons (dVar 6) (aCons (dVar 11) (aCons (dVar 10) (aCons (dOp oIx (dVar 3) (dC (.int 0))) aNil))))) (dLst (aCons (dC (.str [115, 116, 111, 112])) aNil)))) (tst (dOp oNe (dCall f__law_refused (aCons (dVar 6) (aCons (dVar 11) (aCons (dOp oIx (dVar 3) (dUn (fun i => -i) (dC (.int 1)))) (aCons (dVar 10) aNil))))) (dLst (aCons (dC (.str [115, 116, 111, 112])) aNil))))) (sRet (dC (.bl false))) sPass)
def g_law : DS :=
  (sSeq (sSet 1 (dCall f__law_draw (aCons (dVar 0) (aCons (dC (.int 0)) aNil))))
    (sSeq (sSet 2 (dOp oIx (dLst (aCons (dOp oAdd (dC (.int 1)) (dOp oMod (dVar 1) (dC (.int 5)))) (aCons (dC (.int 8)) aNil))) (dBi bInt (aCons (dOp oEq (dOp oMod (dOp oDiv (dVar 1) (dC (.int 8))) (dC (.int 8))) (dC (.int 1))) aNil))))
    (sSeq (sSet 3 (dCall f__law_names (aCons (dVar 0) (aCons (dC (.int 1)) (aCons (dVar 2) aNil)))))
    (sSeq (sSet 4 (dCall f__law_walks (aCons (dVar 0) (aCons (dC (.int 20)) (aCons (dVar 2) (aCons (dOp oMod (dOp oDiv (dVar 1) (dC (.int 64))) (dC (.int 13))) aNil))))))
    (sSeq (sSet 5 (dCall f__law_net (aCons (dVar 3) (aCons (dVar 4) aNil))))
    (sSeq (sSet 6 (dCall (mkO 18 f_Feet___init__) (aCons (dVar 5) aNil)))
    (sSeq (sSet 7 (dCall f__law_table (aCons (dVar 2) (aCons (dVar 4) aNil))))
    (sSeq (sFor (itR1 (aCons (dVar 2) aNil)) (tgN 8) g_law_b2)
    (sSeq (sSet 10 (dOp oIx (dLst (aCons (dC .non) (aCons (dC (.bl true)) (aCons (dC (.int 0)) (aCons (dC (.str [])) (aCons (dC (.str [65])) (aCons (dC (.str [110, 111, 119, 104, 101, 114, 101])) (aCons (dLst (aCons (dOp oIx (dVar 3) (dC (.int 0))) aNil)) (aCons (dTup aNil) (aCons (dC (.dct [] [])) aNil)))))))))) (dOp oMod (dOp oDiv (dVar 1) (dC (.int 1024))) (dC (.int 9)))))
    (sSeq (sFor (itAny (dTup (aCons (dC (.int 0)) (aCons (dC (.int 1)) aNil)))) (tgN 11) g_law_b3)
    (sRet (dOrV (dOp oGt (dBi bLen (aCons (dVar 4) aNil)) (dC (.int 10))) (dCall f__law_goes_on (aCons (dVar 5) (aCons (dVar 6) (aCons (dVar 3) (aCons (dVar 4) (aCons (dVar 7) aNil))))))))))))))))))
def f_law : List D → Sto → Res D := mkF 12 1 g_law
theorem sc_law : FnScope N_law ["_law_script"] (defScope s_law) := ⟨rfl, rfl, rfl, by decide +kernel, rfl, by decide +kernel, by decide +kernel⟩
section
variable {P : Program} {w : World} {K : PySem.W.Frag} {mg : Str → Option Value} {base : Heap}
theorem b_law (Tx : Txt K mg) (c__law_draw : Cl (tb K) P w mg base "_law_draw" 1 2 f__law_draw) (c__law_names : Cl (tb K) P w mg base "_law_names" 2 3 f__law_names) (c__law_walks : Cl (tb K) P w mg base "_law_walks" 2 4 f__law_walks) (c__law_net : Cl (tb K) P w mg base "_law_net" 4 2 f__law_net) (c__law_table : Cl (tb K) P w mg base "_law_table" 1 2 f__law_table) (c__law_right : Cl (tb K) P w mg base "_law_right" 4 6 f__law_right) (c__law_refused : Cl (tb K) P w mg base "_law_refused" 4 4 f__law_refused) (c__law_goes_on : Cl (tb K) P w mg base "_law_goes_on" 5 5 f__law_goes_on) (k_Feet : Mkc (tb K) P w mg base 18 "Feet" 2 2 f_Feet___init__) {f : Addr} (cdv : Value) (A : Around) (outer : List PySem.Env) (s : Shared) (H : Hp) (E : XK) (hr : Room 5 (A.deeper (PyProof.Rows.envOfC "law" (defScope s_law) s.heap.objs.size f cdv))) : PDb (tb K) (cxOf (L2.CX P w) P w (tb K).K mg base N_law "law" (defScope s_law) f cdv A outer s H E) (defBody s_law) (g_law) :=
  (b_cons (s_set 1 sc_law.nd (d_call c__law_draw (a_cons (d_var 0) (a_cons d_int a_nil)) hr (by omega)))
    (b_cons (s_set 2 sc_law.nd (d_ix (d_lst (a_cons (d_op (fun _ _ => op_addA) do_add d_int (d_op (fun _ _ => op_mod) do_mod (d_var 1) d_int)) (a_cons d_int a_nil))) (d_callT (fun _ _ => call_intA) db_int Tx.f_int (by decide +kernel) (a_cons (d_cmp (fun _ _ => op_eqA hr.units) do_eq (d_op (fun _ _ => op_mod) do_mod (d_op (fun _ _ => op_fdiv) do_div (d_var 1) d_int) d_int) d_int (nomark _)) a_nil))))
    (b_cons (s_set 3 sc_law.nd (d_call c__law_names (a_cons (d_var 0) (a_cons d_int (a_cons (d_var 2) a_nil))) hr (by omega)))
    (b_cons (s_set 4 sc_law.nd (d_call c__law_walks (a_cons (d_var 0) (a_cons d_int (a_cons (d_var 2) (a_cons (d_op (fun _ _ => op_mod) do_mod (d_op (fun _ _ => op_fdiv) do_div (d_var 1) d_int) d_int) a_nil)))) hr (by omega)))
    (b_cons (s_set 5 sc_law.nd (d_call c__law_net (a_cons (d_var 3) (a_cons (d_var 4) a_nil)) hr (by omega)))
    (b_cons (s_set 6 sc_law.nd (d_make k_Feet (a_cons (d_var 5) a_nil) hr (by omega)))
    (b_cons (s_set 7 sc_law.nd (d_call c__law_table (a_cons (d_var 2) (a_cons (d_var 4) a_nil)) hr (by omega)))
    (b_cons (s_for (i_range1 Tx.f_range (a_cons (d_var 2) a_nil)) (g_name 8 sc_law.nd) (b_one (s_for (i_range1 Tx.f_range (a_cons (d_var 2) a_nil)) (g_name 9 sc_law.nd) (b_one (s_if (t_not (t_val (d_call c__law_right (a_cons (d_var 6) (a_cons (d_var 3) (a_cons (d_var 4) (a_cons (d_var 7) (a_cons (d_var 8) (a_cons (d_var 9) a_nil)))))) hr (by omega)))) (b_one (s_ret d_bl)) b_nil)))))
    (b_cons (s_set 10 sc_law.nd (d_ix (d_lst (a_cons d_non (a_cons d_bl (a_cons d_int (a_cons (d_str [] (by decide +kernel)) (a_cons (d_str [65] (by decide +kernel)) (a_cons (d_str [110, 111, 119, 104, 101, 114, 101] (by decide +kernel)) (a_cons (d_lst (a_cons (d_ix (d_var 3) d_int) a_nil)) (a_cons (d_tup a_nil) (a_cons d_dct0 a_nil)))))))))) (d_op (fun _ _ => op_mod) do_mod (d_op (fun _ _ => op_fdiv) do_div (d_var 1) d_int) d_int)))
    (b_cons (s_for (i_any (d_tup (a_cons d_int (a_cons d_int a_nil)))) (g_name 11 sc_law.nd) (b_one (s_if (PDw.t (w_or (t_cmp (fun _ _ => op_neA hr.units) do_ne (d_call c__law_refused (a_cons (d_var 6) (a_cons (d_var 11) (a_cons (d_var 10) (a_cons (d_ix (d_var 3) d_int) a_nil)))) hr (by omega)) (d_lst (a_cons (d_str [115, 116, 111, 112] (by decide +kernel)) a_nil)) (nomark _)) (w_or1 (t_cmp (fun _ _ => op_neA hr.units) do_ne (d_call c__law_refused (a_cons (d_var 6) (a_cons (d_var 11) (a_cons (d_ix (d_var 3) (d_neg d_int)) (a_cons (d_var 10) a_nil)))) hr (by omega)) (d_lst (a_cons (d_str [115, 116, 111, 112] (by decide +kernel)) a_nil)) (nomark _))))) (b_one (s_ret d_bl)) b_nil)))
    (b_one (s_ret (d_or (d_cmp (fun _ _ => op_gt) do_cmp (d_callB (fun _ _ => call_len) db_len Tx.f_len (by decide +kernel) (a_cons (d_var 4) a_nil)) d_int (nomark _)) (d_one (d_call c__law_goes_on (a_cons (d_var 5) (a_cons (d_var 6) (a_cons (d_var 3) (a_cons (d_var 4) (a_cons (d_var 7) a_nil))))) hr (by omega))))))))))))))))
end
end Rb
namespace Rb
open PySem PySem.Spec L2 Mp
theorem p_drawA {ns : List Int} {k : Int} (hk : 0 ≤ k ∧ k < 100000) : ∃ x : Int, 0 ≤ x ∧ x < 100000000 ∧ ∀ s : Sto, f__law_draw [.scr ns, .int k] s = .ok (.int x) s := by
  have fin : ∀ c : Int, ∃ x : Int, 0 ≤ x ∧ x < 100000000 ∧ x = (c % 1000000007 + 7919 * k + 13) * (c % 1000000007 + 7919 * k + 13) % 1000000007 * (c % 1000000007 + 7919 * k + 13) % 998244353 / 11 := fun c => ⟨_, by omega, by omega, rfl⟩
  have e1 : ∀ i c, cMul i (c % 1000000007 + 7919 * k + 13) = true := fun i c => cMul_r (by omega)
  have e2 : cMul 7919 k = true := cMul_l (by omega)
  cases ns with
  | nil =>
    obtain ⟨x, h1, h2, h3⟩ := fin 0
    refine ⟨x, h1, h2, fun s => ?_⟩
    have e3 := e1 (7919 * k + 13) 0
    have e4 := fun i => e1 i 0
    rw [h3]
    simp at e4
    simp [f__law_draw, mkF, g__law_draw, oEq_scr0, lim_eq, e2, e4]
  | cons n ns =>
    have hp : (0 : Int) < ((n :: ns).length : Int) := by rw [List.length_cons]; omega
    obtain ⟨d, h1, v, e⟩ := atI_ex (xs := (n :: ns).map D.int) (i := k % ((n :: ns).length : Int)) (Q := fun d => ∃ v, d = D.int v) (Int.emod_nonneg _ (by omega)) (by
      rw [List.length_map]
      exact Int.emod_lt_of_pos _ hp) (by simp)
    subst e
    obtain ⟨x, q1, q2, q3⟩ := fin v
    refine ⟨x, q1, q2, fun s => ?_⟩
    rw [q3]
    simp only [List.map_cons, List.length_cons] at h1
    simp only [List.length_cons] at hp
    push_cast at h1 hp
    simp [f__law_draw, mkF, g__law_draw, oEq_scr0, lim_eq, h1, hp, e1, e2]
theorem p_draw {ns : List Int} {k : Int} {s : Sto} (hk : 0 ≤ k ∧ k < 100000) : ∃ x : Int, 0 ≤ x ∧ x < 100000000 ∧ f__law_draw [.scr ns, .int k] s = .ok (.int x) s := by
  obtain ⟨x, h1, h2, h3⟩ := p_drawA (ns := ns) hk
  exact ⟨x, h1, h2, h3 s⟩
/-! ### names -/
abbrev lets : List Nat := [97, 98, 99, 100, 101, 102, 103, 104, 105, 106, 107, 108, 109, 110, 111, 112, 113, 114, 115, 116, 117, 118, 119, 120, 121, 122]
theorem let_at : ∀ i : Fin 26, lets[i.val]? = some (97 + i.val) := by decide
theorem let_atI {i : Int} (h0 : 0 ≤ i) (h1 : i < 26) : atI lets i = some (97 + i.toNat) := by
  rw [atI_int h0 (by show i < 26; exact h1)]
  exact let_at ⟨i.toNat, by omega⟩
def NmOk (z : List Nat) : Prop := z ≠ [] ∧ z.length ≤ 8 ∧ ∀ c ∈ z, 97 ≤ c ∧ c ≤ 122
def ltr (a : Int) (m : Int) (j : Nat) : Nat := 97 + ((a + m * j) % 26).toNat
theorem ltr_ok {a m : Int} {j : Nat} : 97 ≤ ltr a m j ∧ ltr a m j ≤ 122 := by
  unfold ltr
  have h1 := Int.emod_nonneg (a + m * j) (by decide : (26 : Int) ≠ 0)
  have h2 := Int.emod_lt_of_pos (a + m * j) (by decide : (0 : Int) < 26)
  omega
theorem join0 : ∀ ys : List Nat, TL.joinL [] (ys.map fun c => [c]) = ys
  | [] => rfl
  | [c] => rfl
  | c :: d :: ys => by
    have ih := join0 (d :: ys)
    simp only [List.map_cons] at ih ⊢
    show [c] ++ ([] ++ TL.joinL [] ([d] :: ys.map fun c => [c])) = _
    rw [ih]
    rfl
theorem sum1 : ∀ ys : List Nat, ((ys.map fun c => [c]).map List.length).sum = ys.length
  | [] => rfl
  | c :: ys => by
    have := sum1 ys
    simp at this ⊢
    omega
theorem mJoin1 {ys : List Nat} {s : Sto} (h : ys.length ≤ 1000) : mJoin (.str []) [.lst (ys.map fun c => D.str [c])] s = .ok (.str ys) s := by
  have e : ys.map (fun c => D.str [c]) = (ys.map fun c => [c]).map D.str := by rw [List.map_map]; rfl
  rw [e, mJoin_ok (by rw [sum1, lim_eq]; simp; omega), join0]
theorem intsD_map {a : Int} {n : Nat} {α : Type} (f : D → α) : (intsD a n).map f = (List.range n).map fun (i : Nat) => f (.int (a + (i : Int))) := by
  simp [intsD]
theorem mem_ints {a : Int} {n : Nat} {d : D} (h : d ∈ intsD a n) : ∃ i : Nat, i < n ∧ d = .int (a + (i : Int)) := by
  simp [intsD] at h
  obtain ⟨i, h1, h2⟩ := h
  exact ⟨i, h1, h2.symm⟩
/-- letters[(a + m * j) % 26] for j in range(n), slot 9 -/
theorem p_row {δ : Mp.Env} {s : Sto} {n : Nat} {m : Int} {e : DE} {x : Int} (hn : n ≤ 8) (he : ∀ (j : Nat) , j < n → e (δ.set 9 (some (.int (0 + (j : Int))))) s = .ok (.str [ltr x m j]) s) :
    lcL (tgN 9) cYes e δ (intsD 0 n) [] s = .ok (.lst (((List.range n).map (ltr x m)).map fun c => D.str [c])) s := by
  rw [lcL_map (fun d => match d with | .int j => .str [ltr x m j.toNat] | _ => .non) (intsD 0 n) [] (by rw [lim_eq]; simp [intsD]; omega) (by
    intro d hd
    obtain ⟨j, hj, rfl⟩ := mem_ints hd
    refine ⟨_, rfl, ?_⟩
    rw [he j hj]
    simp)]
  rw [intsD_map]
  simp
theorem cut_take {α : Type} {xs : List α} {i : Nat} (h : i ≤ xs.length) : cutL xs none (some (i : Int)) = xs.take i := by
  have := cutL_to (a := xs.take i) (b := xs.drop i) (i := (i : Int)) (by rw [List.length_take]; omega)
  rw [List.take_append_drop] at this
  exact this
theorem cut_drop {α : Type} {xs : List α} {i : Nat} (h : i ≤ xs.length) : cutL xs (some (i : Int)) none = xs.drop i := by
  have := cutL_from (a := xs.take i) (b := xs.drop i) (i := (i : Int)) (by rw [List.length_take]; omega)
  rw [List.take_append_drop] at this
  exact this
theorem nodup_map {α : Type} {f : Nat → α} {n : Nat} (h : ∀ i j, i < n → j < n → f i = f j → i = j) : ((List.range n).map f).Nodup := by
  rw [List.Nodup, List.pairwise_map]
  refine List.Pairwise.imp_of_mem (R := fun a b => a ≠ b) (fun {a b} ha hb hab e => hab (h a b (List.mem_range.mp ha) (List.mem_range.mp hb) e)) ?_
  exact List.nodup_range
theorem seq_step {f g : DS} {δ δ' : Mp.Env} {s s' : Sto} {o : Out} (h1 : f δ s = .nx δ' s') (h2 : g δ' s' = o) : sSeq f g δ s = o := by
  rw [sSeq_eq, h1]
  exact h2
theorem seq_ret {f g : DS} {δ : Mp.Env} {s s' : Sto} {d : D} (h1 : f δ s = .rt d s') : sSeq f g δ s = .rt d s' := by
  rw [sSeq_eq, h1]
  rfl
theorem row_ex {x m : Int} {n : Nat} : ∃ row : List Nat, row = (List.range n).map (ltr x m) ∧ row.length = n ∧ ∀ c ∈ row, 97 ≤ c ∧ c ≤ 122 := by
  refine ⟨_, rfl, by simp, ?_⟩
  intro c hc
  obtain ⟨j, _, rfl⟩ := List.mem_map.mp hc
  exact ltr_ok
theorem c_row {j : Nat} {a : Int} {m : Int} (hm : -100 < m ∧ m < 100) : cMul m (j : Int) = true ∧ atI lets ((a + m * (j : Int)) % 26) = some (ltr a m j) := by
  refine ⟨cMul_l (by omega), ?_⟩
  rw [let_atI (Int.emod_nonneg _ (by decide)) (Int.emod_lt_of_pos _ (by decide))]
  rfl
theorem n_pre {row : List Nat} {many : Nat} {δ : Mp.Env} {s : Sto} (hl : row.length = 8) (hm : many ≤ 8) (hδ : δ[5]? = some (some (.str row))) (h9 : δ.length = 10) :
    lcL (tgN 9) cYes (dSl (dVar 5) pNone (pSome (dOp oAdd (dC (.int 1)) (dVar 9)))) δ (intsD 0 many) [] s = .ok (.lst (((List.range many).map fun j => row.take (1 + j)).map D.str)) s := by
  rw [lcL_map (fun d => match d with | .int j => .str (row.take (1 + j.toNat)) | _ => .non) (intsD 0 many) [] (by rw [lim_eq]; simp [intsD]; omega) (by
    intro d hd
    obtain ⟨j, hj, rfl⟩ := mem_ints hd
    refine ⟨_, rfl, ?_⟩
    have e := cut_take (xs := row) (i := 1 + j) (by omega)
    push_cast at e
    have hl' : row.length ≤ lim := by rw [lim_eq]; omega
    have q1 : (δ.set 9 (some (.int (0 + (j : Int)))))[5]? = some (some (.str row)) := by rw [List.getElem?_set_ne (by decide)]; exact hδ
    have q2 : (δ.set 9 (some (.int (0 + (j : Int)))))[9]? = some (some (.int (0 + (j : Int)))) := List.getElem?_set_self (by omega)
    simp only [dSl_eq, dVar_eq, q1, q2, bind_ok, pNone_eq, pSome_eq, dOp_eq, dC_eq, oAdd_int, oSl_str hl']
    simp [e])]
  rw [intsD_map]
  simp only [List.nil_append, List.map_map]
  congr 2
  refine List.map_congr_left fun i _ => ?_
  simp
theorem n_mid {rest : List Nat} {at_ many : Nat} {x : Int} {δ : Mp.Env} {s : Sto} (hl : rest.length ≤ 7) (ha : at_ ≤ rest.length) (hm : many ≤ 8) (h3 : δ[3]? = some (some (.str lets))) (h4 : δ[4]? = some (some (.int x))) (h7 : δ[7]? = some (some (.int at_))) (h8 : δ[8]? = some (some (.str rest))) (h9 : δ.length = 10) :
    lcL (tgN 9) cYes (dOp oAdd (dOp oAdd (dSl (dVar 8) pNone (pSome (dVar 7))) (dOp oIx (dVar 3) (dOp oMod (dOp oAdd (dOp oDiv (dVar 4) (dC (.int 5616))) (dVar 9)) (dC (.int 26))))) (dSl (dVar 8) (pSome (dVar 7)) pNone)) δ (intsD 0 many) [] s =
      .ok (.lst (((List.range many).map fun j => rest.take at_ ++ [ltr (x / 5616) 1 j] ++ rest.drop at_).map D.str)) s := by
  rw [lcL_map (fun d => match d with | .int j => .str (rest.take at_ ++ [ltr (x / 5616) 1 j.toNat] ++ rest.drop at_) | _ => .non) (intsD 0 many) [] (by rw [lim_eq]; simp [intsD]; omega) (by
    intro d hd
    obtain ⟨j, hj, rfl⟩ := mem_ints hd
    refine ⟨_, rfl, ?_⟩
    have e1 := cut_take (xs := rest) (i := at_) ha
    have e2 := cut_drop (xs := rest) (i := at_) ha
    have hl' : rest.length ≤ lim := by rw [lim_eq]; omega
    have q3 : (δ.set 9 (some (.int (0 + (j : Int)))))[3]? = some (some (.str lets)) := by rw [List.getElem?_set_ne (by decide)]; exact h3
    have q4 : (δ.set 9 (some (.int (0 + (j : Int)))))[4]? = some (some (.int x)) := by rw [List.getElem?_set_ne (by decide)]; exact h4
    have q7 : (δ.set 9 (some (.int (0 + (j : Int)))))[7]? = some (some (.int at_)) := by rw [List.getElem?_set_ne (by decide)]; exact h7
    have q8 : (δ.set 9 (some (.int (0 + (j : Int)))))[8]? = some (some (.str rest)) := by rw [List.getElem?_set_ne (by decide)]; exact h8
    have q9 : (δ.set 9 (some (.int (0 + (j : Int)))))[9]? = some (some (.int (0 + (j : Int)))) := List.getElem?_set_self (by omega)
    have l1 : atI lets ((x / 5616 + (0 + (j : Int))) % 26) = some (ltr (x / 5616) 1 j) := by
      have := (c_row (j := j) (a := x / 5616) (m := 1) (by decide)).2
      rw [Int.one_mul] at this
      rw [Int.zero_add]
      exact this
    have w1 : (rest.take at_).length + 1 ≤ lim := by rw [lim_eq, List.length_take]; omega
    have w2 : (rest.take at_ ++ [ltr (x / 5616) 1 j]).length + (rest.drop at_).length ≤ lim := by rw [lim_eq, List.length_append, List.length_take, List.length_drop]; simp; omega
    have ll : lets.length ≤ lim := by decide
    simp only [Int.zero_add] at q3 q4 q7 q8 q9 l1
    have d1 : (decide ((0 : Int) < 5616) && decide ((5616 : Int) < 1073741824)) = true := by decide
    have d2 : decide ((0 : Int) < 26) = true := by decide
    simp only [dOp_eq, dSl_eq, dVar_eq, q3, q4, q7, q8, q9, bind_ok, pNone_eq, pSome_eq, dC_eq, oInt_int, d1, d2, if_true, oAdd_int, oSl_str hl', e1, e2, oIx_str, ll, l1, oAdd_str, List.length_singleton, w1, w2, Int.zero_add, Int.toNat_natCast])]
  rw [intsD_map]
  simp only [List.nil_append, List.map_map]
  congr 2
  refine List.map_congr_left fun i _ => ?_
  simp
theorem mid_nodup {rest : List Nat} {at_ many : Nat} {a : Int} (ha : at_ ≤ rest.length) (hm : many ≤ 8) : ((List.range many).map fun j => rest.take at_ ++ [ltr a 1 j] ++ rest.drop at_).Nodup := nodup_map fun i j hi hj e => by
  have e2 := List.append_inj_left' e rfl
  have e3 := List.append_cancel_left e2
  have e4 : ltr a 1 i = ltr a 1 j := by simpa using e3
  unfold ltr at e4
  have h1 := Int.emod_nonneg (a + 1 * (i : Int)) (by decide : (26 : Int) ≠ 0)
  have h2 := Int.emod_nonneg (a + 1 * (j : Int)) (by decide : (26 : Int) ≠ 0)
  omega
/-- nowhere -/
def nwh : List Nat := [110, 111, 119, 104, 101, 114, 101]
/-- fresh -/
def frs : List Nat := [102, 114, 101, 115, 104]
theorem row_at {x m : Int} {n j : Nat} (h : j < n) : ((List.range n).map (ltr x m))[j]? = some (ltr x m j) := by simp [h]
theorem nw1 {x : Int} {j : Nat} : ((List.range 8).map (ltr x 5)).take (1 + j) ≠ nwh := by
  intro e
  have l := congrArg List.length e
  simp [nwh] at l
  have e0 := congrArg (fun l => l[0]?) e
  have e1 := congrArg (fun l => l[1]?) e
  simp only [nwh] at e0 e1
  rw [List.getElem?_take_of_lt (by omega), row_at (by omega)] at e0 e1
  simp [ltr] at e0 e1
  omega
theorem nw2 {x a : Int} {n at_ j : Nat} (ha : at_ ≤ n) : ((List.range n).map (ltr x 7)).take at_ ++ [ltr a 1 j] ++ ((List.range n).map (ltr x 7)).drop at_ ≠ nwh := by
  intro e
  have l := congrArg List.length e
  simp [nwh] at l
  have hn : n = 6 := by omega
  subst hn
  have r6 : (List.range 6).map (ltr x 7) = [ltr x 7 0, ltr x 7 1, ltr x 7 2, ltr x 7 3, ltr x 7 4, ltr x 7 5] := rfl
  rw [r6] at e
  unfold nwh at e
  have hc : at_ = 0 ∨ at_ = 1 ∨ at_ = 2 ∨ at_ = 3 ∨ at_ = 4 ∨ at_ = 5 ∨ at_ = 6 := by omega
  rcases hc with rfl | rfl | rfl | rfl | rfl | rfl | rfl <;> simp [ltr] at e <;> omega
theorem fr1 {x : Int} {j : Nat} : ((List.range 8).map (ltr x 5)).take (1 + j) ≠ frs := by
  intro e
  have l := congrArg List.length e
  simp [frs] at l
  have e0 := congrArg (fun l => l[0]?) e
  have e1 := congrArg (fun l => l[1]?) e
  simp only [frs] at e0 e1
  rw [List.getElem?_take_of_lt (by omega), row_at (by omega)] at e0 e1
  simp [ltr] at e0 e1
  omega
theorem fr2 {x a : Int} {n at_ j : Nat} (ha : at_ ≤ n) : ((List.range n).map (ltr x 7)).take at_ ++ [ltr a 1 j] ++ ((List.range n).map (ltr x 7)).drop at_ ≠ frs := by
  intro e
  have l := congrArg List.length e
  simp [frs] at l
  have hn : n = 4 := by omega
  subst hn
  have r6 : (List.range 4).map (ltr x 7) = [ltr x 7 0, ltr x 7 1, ltr x 7 2, ltr x 7 3] := rfl
  rw [r6] at e
  unfold frs at e
  have hc : at_ = 0 ∨ at_ = 1 ∨ at_ = 2 ∨ at_ = 3 ∨ at_ = 4 := by omega
  rcases hc with rfl | rfl | rfl | rfl | rfl <;> simp [ltr] at e <;> omega
theorem p_names {ns : List Int} {k M : Int} {many : Nat} {s : Sto} (hk : 0 ≤ k ∧ k < 10000) (hm : many ≤ 8) (hM : M = (many : Int)) : ∃ zs : List (List Nat), zs.length = many ∧ zs.Nodup ∧ (∀ z ∈ zs, NmOk z ∧ z ≠ nwh ∧ z ≠ frs) ∧ f__law_names [.scr ns, .int k, .int M] s = .ok (.lst (zs.map D.str)) s := by
  obtain ⟨x, x0, x1, e1⟩ := p_draw (ns := ns) (k := k) (s := s) (by omega)
  have sm : small62 M = true := by unfold small62; simp; omega
  have tm : M.toNat = many := by omega
  have s8 : small62 8 = true := by decide
  by_cases h3 : x % 3 = 1
  · obtain ⟨row, hrow, hl, hok⟩ := row_ex (x := x / 3) (m := 5) (n := 8)
    have r1 := p_row (δ := [some (.scr ns), some (.int k), some (.int M), some (.str lets), some (.int x), none, none, none, none, none]) (s := s) (n := 8) (m := 5) (x := x / 3) (e := dOp oIx (dVar 3) (dOp oMod (dOp oAdd (dOp oDiv (dVar 4) (dC (.int 3))) (dOp oMulA (dC (.int 5)) (dVar 9))) (dC (.int 26)))) (by omega) (fun j hj => by
      obtain ⟨c1, l1⟩ := c_row (j := j) (a := x / 3) (m := 5) (by omega)
      simp [lim_eq, c1, l1])
    rw [← hrow] at r1
    have r2 := mJoin1 (ys := row) (s := s) (by omega)
    have r3 := n_pre (row := row) (many := many) (δ := [some (.scr ns), some (.int k), some (.int M), some (.str lets), some (.int x), some (.str row), none, none, none, none]) (s := s) hl hm rfl rfl
    refine ⟨(List.range many).map fun j => row.take (1 + j), by simp, nodup_map fun i j hi hj e => ?_, ?_, ?_⟩
    · have := congrArg List.length e
      rw [List.length_take, List.length_take] at this
      omega
    · intro z hz
      obtain ⟨j, hj, rfl⟩ := List.mem_map.mp hz
      have hj' := List.mem_range.mp hj
      refine ⟨⟨fun q => ?_, by rw [List.length_take]; omega, fun c hc => hok c (List.mem_of_mem_take hc)⟩, by rw [hrow]; exact nw1, by rw [hrow]; exact fr1⟩
      have := congrArg List.length q
      rw [List.length_take, hl] at this
      simp only [List.length_nil] at this
      omega
    · have h3' : (x % 3 == 1) = true := by simpa using h3
      generalize (List.range many).map (fun j => row.take (1 + j)) = zs at r3 ⊢
      have key : g__law_names [some (.scr ns), some (.int k), some (.int M), none, none, none, none, none, none, none] s = .rt (.lst (zs.map D.str)) s := by
        unfold g__law_names
        refine seq_step (δ' := [some (.scr ns), some (.int k), some (.int M), some (.str lets), none, none, none, none, none, none]) (s' := s) (by simp) ?_
        refine seq_step (δ' := [some (.scr ns), some (.int k), some (.int M), some (.str lets), some (.int x), none, none, none, none, none]) (s' := s) (by simp [e1]) ?_
        refine seq_ret ?_
        have i1 : tst (dOp oEq (dOp oMod (dVar 4) (dC (.int 3))) (dC (.int 1))) [some (.scr ns), some (.int k), some (.int M), some (.str lets), some (.int x), none, none, none, none, none] s = .ok true s := by simp [h3']
        rw [sIf_eq, i1]
        simp only [out_ok, if_true]
        refine seq_step (δ' := [some (.scr ns), some (.int k), some (.int M), some (.str lets), some (.int x), some (.str row), none, none, none, none]) (s' := s) (by simp [s8, r1, r2]) ?_
        simp [sm, tm, r3]
      show finO s.length (g__law_names [some (.scr ns), some (.int k), some (.int M), none, none, none, none, none, none, none] s) = _
      rw [key]
      simp
  · have z0 : 0 ≤ x / 3 % 8 := by omega
    have z1 : x / 3 % 8 < 8 := by omega
    obtain ⟨n, hn⟩ := Int.eq_ofNat_of_zero_le z0
    obtain ⟨rest, hrow, hl, hok⟩ := row_ex (x := x / 216) (m := 7) (n := n)
    have r1 := p_row (δ := [some (.scr ns), some (.int k), some (.int M), some (.str lets), some (.int x), none, some (.int (x / 3 % 8)), some (.int (x / 24 % (x / 3 % 8 + 1))), none, none]) (s := s) (n := n) (m := 7) (x := x / 216) (e := dOp oIx (dVar 3) (dOp oMod (dOp oAdd (dOp oDiv (dVar 4) (dC (.int 216))) (dOp oMulA (dC (.int 7)) (dVar 9))) (dC (.int 26)))) (by omega) (fun j hj => by
      obtain ⟨c1, l1⟩ := c_row (j := j) (a := x / 216) (m := 7) (by omega)
      simp [lim_eq, c1, l1])
    rw [← hrow] at r1
    have r2 := mJoin1 (ys := rest) (s := s) (by omega)
    have p1 : 0 < x / 3 % 8 + 1 := by omega
    have y0 : 0 ≤ x / 24 % (x / 3 % 8 + 1) := Int.emod_nonneg _ (by omega)
    have y1 : x / 24 % (x / 3 % 8 + 1) < x / 3 % 8 + 1 := Int.emod_lt_of_pos _ p1
    obtain ⟨at_, hat⟩ := Int.eq_ofNat_of_zero_le y0
    have sn : small62 (x / 3 % 8) = true := by unfold small62; simp; omega
    have r3 := n_mid (rest := rest) (at_ := at_) (many := many) (x := x) (δ := [some (.scr ns), some (.int k), some (.int M), some (.str lets), some (.int x), none, some (.int (x / 3 % 8)), some (.int at_), some (.str rest), none]) (s := s) (by omega) (by omega) hm rfl rfl rfl rfl rfl
    have nd := mid_nodup (rest := rest) (at_ := at_) (many := many) (a := x / 5616) (by omega) hm
    have nm : ∀ z ∈ (List.range many).map (fun j => rest.take at_ ++ [ltr (x / 5616) 1 j] ++ rest.drop at_), NmOk z ∧ z ≠ nwh ∧ z ≠ frs := by
      intro z hz
      obtain ⟨j, hj, rfl⟩ := List.mem_map.mp hz
      refine ⟨⟨by simp, by simp [List.length_take, List.length_drop]; omega, fun c hc => ?_⟩, by rw [hrow]; exact nw2 (by omega), by rw [hrow]; exact fr2 (by omega)⟩
      rw [List.mem_append, List.mem_append] at hc
      rcases hc with (hc | hc) | hc
      · exact hok c (List.mem_of_mem_take hc)
      · rw [List.mem_singleton.mp hc]; exact ltr_ok
      · exact hok c (List.mem_of_mem_drop hc)
    have ln : ((List.range many).map (fun j => rest.take at_ ++ [ltr (x / 5616) 1 j] ++ rest.drop at_)).length = many := by simp
    generalize (List.range many).map (fun j => rest.take at_ ++ [ltr (x / 5616) 1 j] ++ rest.drop at_) = zs at r3 nd nm ln
    refine ⟨zs, ln, nd, nm, ?_⟩
    have h3' : (x % 3 == 1) = false := by simpa using h3
    rw [← hat] at r3
    have tn : (x / 3 % 8).toNat = n := by omega
    have key : g__law_names [some (.scr ns), some (.int k), some (.int M), none, none, none, none, none, none, none] s = .rt (.lst (zs.map D.str)) s := by
      unfold g__law_names
      refine seq_step (δ' := [some (.scr ns), some (.int k), some (.int M), some (.str lets), none, none, none, none, none, none]) (s' := s) (by simp) ?_
      refine seq_step (δ' := [some (.scr ns), some (.int k), some (.int M), some (.str lets), some (.int x), none, none, none, none, none]) (s' := s) (by simp [e1]) ?_
      refine seq_step (δ' := [some (.scr ns), some (.int k), some (.int M), some (.str lets), some (.int x), none, none, none, none, none]) (s' := s) (by simp [h3']) ?_
      refine seq_step (δ' := [some (.scr ns), some (.int k), some (.int M), some (.str lets), some (.int x), none, some (.int (x / 3 % 8)), none, none, none]) (s' := s) (by simp) ?_
      refine seq_step (δ' := [some (.scr ns), some (.int k), some (.int M), some (.str lets), some (.int x), none, some (.int (x / 3 % 8)), some (.int (x / 24 % (x / 3 % 8 + 1))), none, none]) (s' := s) (by simp [p1]) ?_
      refine seq_step (δ' := [some (.scr ns), some (.int k), some (.int M), some (.str lets), some (.int x), none, some (.int (x / 3 % 8)), some (.int (x / 24 % (x / 3 % 8 + 1))), some (.str rest), none]) (s' := s) (by simp [sn, tn, r1, r2]) ?_
      simp [sm, tm, r3]
    show finO s.length (g__law_names [some (.scr ns), some (.int k), some (.int M), none, none, none, none, none, none, none] s) = _
    rw [key]
    simp
end Rb
namespace Rb
open PySem PySem.Spec L2 Mp
/-! ### names, zones that rise -/
theorem sign_in {c : Nat} : decide (c ∈ lets) = (decide (97 ≤ c) && decide (c ≤ 122)) := by
  by_cases h : 97 ≤ c ∧ c ≤ 122
  · have : ∀ i : Fin 26, (97 + i.val) ∈ lets := by decide
    have := this ⟨c - 97, by omega⟩
    simp only at this
    rw [show 97 + (c - 97) = c by omega] at this
    simp only [this, decide_true, h.1, h.2, Bool.and_self]
  · rw [show (decide (97 ≤ c) && decide (c ≤ 122)) = false by simpa using fun a b => h ⟨a, b⟩]
    refine decide_eq_false fun hm => h ?_
    have : ∀ x ∈ lets, 97 ≤ x ∧ x ≤ 122 := by decide
    exact this c hm
theorem p_isname {z : List Nat} {s : Sto} (h : NmOk z) : f_is_name [.str z] s = .ok (.bl true) s := by
  obtain ⟨h1, h2, h3⟩ := h
  have i1 : bIsO parT parA csT [.str z, .ty "str"] s = .ok (.bl true) s := iso_ty (t := "str") rfl kit_ss
  have hl : 0 < z.length := List.length_pos_iff.mpr h1
  have hl1 : (1 : Int) ≤ z.length := by omega
  have hl2 : (z.length : Int) ≤ 8 := by omega
  have hl3 : z.length ≤ lim := by rw [lim_eq]; omega
  have hc := lcL_map (s := s) (δ := [some (.str z), none]) (t := tgN 1) (e := dOp (oInA false) (dVar 1) (dC (.str lets))) (fun _ => D.bl true) (z.map fun c => D.str [c]) [] (by rw [lim_eq]; simp; omega) (by
    intro d hd
    obtain ⟨c, hc, rfl⟩ := List.mem_map.mp hd
    refine ⟨_, rfl, ?_⟩
    have := h3 c hc
    have e := sign_in (c := c)
    rw [decide_eq_true this.1, decide_eq_true this.2] at e
    simp only [dOp_eq, dVar_eq, List.set, List.getElem?_cons_succ, List.getElem?_cons_zero, bind_ok, dC_eq, oInA_sign, e]
    rfl)
  have ha : bAll [.lst ([] ++ (z.map fun c => D.str [c]).map fun _ => D.bl true)] s = .ok (.bl true) s := bAll_true (by
    intro x hx
    rw [List.nil_append] at hx
    obtain ⟨_, _, e⟩ := List.mem_map.mp hx
    exact e.symm)
  have key : g_is_name [some (.str z), none] s = .rt (.bl true) s := by
    unfold g_is_name
    refine seq_step (δ' := [some (.str z), none]) (s' := s) (by simp [i1, hl3, hl1, hl2]) ?_
    simp only [sRet_eq, dBi_eq, aCons_eq, dLc_eq, itAny_eq, dVar_eq, List.getElem?_cons_zero, bind_ok, wipeE_cons, wipeE_nil, List.set, aNil_eq]
    rw [hc]
    simp only [bind_ok, ha, out_ok]
  show finO s.length (g_is_name [some (.str z), none] s) = _
  rw [key]
  simp
theorem p_among {a lo hi : Int} {s : Sto} : f_is_among [.int a, .int lo, .int hi] s = .ok (.bl (decide (lo ≤ a) && decide (a ≤ hi))) s := by
  have i1 : bIsO parT parA csT [.int a, .ty "int"] s = .ok (.bl true) s := iso_ty (t := "int") rfl kit_ii
  have i2 : bIsO parT parA csT [.int a, .ty "bool"] s = .ok (.bl false) s := iso_ty (t := "int") rfl kit_ib
  simp [f_is_among, mkF, g_is_among, i1, i2]
  by_cases h : lo ≤ a <;> simp [h]
end Rb
namespace Rb
open PySem PySem.Spec L2 Mp
/-! ### the least of triples -/
theorem lt3_ne {a b : T3} (h : a.1 ≠ b.1) : lt3 a b = decide (a.1 < b.1) := by
  have h1 : ((.inl a.1 : Int ⊕ List Nat)) ≠ .inl b.1 := fun e => h (Sum.inl.inj e)
  have := PySem.W.dataLt_int a.1 b.1
  rw [← this]
  unfold lt3 PySem.W.dataLt
  show PyProof.Rows.lexLt PyProof.Rows.itemOrd (([Sum.inl 1] : List (Int ⊕ List Nat)) ++ (Sum.inl a.1 :: _)) ([Sum.inl 1] ++ (Sum.inl b.1 :: _)) = PyProof.Rows.lexLt PyProof.Rows.itemOrd [Sum.inl a.1] [Sum.inl b.1]
  rw [PySem.W.lex_pre]
  exact PySem.W.lex_atom h1 _ _
theorem lt3_le {a b : T3} (h : lt3 a b = true) : a.1 ≤ b.1 := by
  by_cases e : a.1 = b.1
  · omega
  · rw [lt3_ne e] at h
    have := of_decide_eq_true h
    omega
theorem lt3_ge {a b : T3} (h : ¬ lt3 a b = true) : b.1 ≤ a.1 := by
  by_cases e : a.1 = b.1
  · omega
  · rw [lt3_ne e] at h
    have : ¬ a.1 < b.1 := fun q => h (decide_eq_true q)
    omega
theorem min3_ok : ∀ (ts : List T3) (t : T3), min3 t ts ∈ t :: ts ∧ ∀ u ∈ t :: ts, (min3 t ts).1 ≤ u.1
  | [], t => ⟨List.mem_cons_self, fun u hu => by rw [List.mem_singleton.mp hu]; exact Int.le_refl _⟩
  | y :: ts, t => by
    have e : min3 t (y :: ts) = min3 (if lt3 y t = true then y else t) ts := rfl
    obtain ⟨h1, h2⟩ := min3_ok ts (if lt3 y t = true then y else t)
    rw [e]
    have h0 := h2 _ List.mem_cons_self
    constructor
    · rcases List.mem_cons.mp h1 with q | q
      · rw [q]
        split
        · exact List.mem_cons_of_mem _ List.mem_cons_self
        · exact List.mem_cons_self
      · exact List.mem_cons_of_mem _ (List.mem_cons_of_mem _ q)
    · intro u hu
      rcases List.mem_cons.mp hu with rfl | hu
      · by_cases hc : lt3 y u = true
        · have := lt3_le hc
          simp only [hc, if_true] at h0 ⊢
          omega
        · simp only [hc, if_false] at h0 ⊢
          exact h0
      · rcases List.mem_cons.mp hu with rfl | hu
        · by_cases hc : lt3 u t = true
          · simp only [hc, if_true] at h0 ⊢
            exact h0
          · have := lt3_ge hc
            simp only [hc, if_false] at h0 ⊢
            simp at h0 ⊢
            omega
        · exact h2 u (List.mem_cons_of_mem _ hu)
/-! ### ways in a graph -/
abbrev Nm := List Nat
abbrev Ed := Nm → Nm → Int → Prop
inductive Path (E : Ed) : Nm → Nm → Int → Prop
  | nil (a : Nm) : Path E a a 0
  | cons {a b c : Nm} {m n : Int} : E a b m → Path E b c n → Path E a c (m + n)
theorem Path.snoc {E : Ed} {a b c : Nm} {m n : Int} (p : Path E a b m) (e : E b c n) : Path E a c (m + n) := by
  induction p with
  | nil a => 
    have := Path.cons e (Path.nil c)
    rw [Int.add_zero] at this
    rw [Int.zero_add]
    exact this
  | cons e' p ih =>
    rw [Int.add_assoc]
    exact .cons e' (ih e)
theorem Path.rev {E : Ed} (sy : ∀ a b m, E a b m → E b a m) {a b : Nm} {m : Int} (p : Path E a b m) : Path E b a m := by
  induction p with
  | nil a => exact .nil a
  | cons e p ih =>
    rw [Int.add_comm]
    exact ih.snoc (sy _ _ _ e)
theorem Path.nonneg {E : Ed} (pos : ∀ a b m, E a b m → 1 ≤ m) {a b : Nm} {m : Int} (p : Path E a b m) : 0 ≤ m := by
  induction p with
  | nil a => omega
  | cons e p ih =>
    have := pos _ _ _ e
    omega
def Dist (E : Ed) (a b : Nm) (m : Int) : Prop := Path E a b m ∧ ∀ n, Path E a b n → m ≤ n
theorem Dist.uniq {E : Ed} {a b : Nm} {m n : Int} (h : Dist E a b m) (k : Dist E a b n) : m = n := by
  have := h.2 n k.1
  have := k.2 m h.1
  omega
theorem Dist.symm {E : Ed} (sy : ∀ a b m, E a b m → E b a m) {a b : Nm} {m : Int} (h : Dist E a b m) : Dist E b a m := ⟨h.1.rev sy, fun n p => h.2 n (p.rev sy)⟩
/-- what is told of a and b -/
def IsD (E : Ed) (a b : Nm) : Option Int → Prop
  | some m => Dist E a b m
  | none => ∀ m, ¬ Path E a b m
theorem IsD.uniq {E : Ed} {a b : Nm} {o o' : Option Int} (h : IsD E a b o) (k : IsD E a b o') : o = o' := by
  cases o with
  | none =>
    cases o' with
    | none => rfl
    | some n => exact absurd k.1 (h n)
  | some m =>
    cases o' with
    | none => exact absurd h.1 (k m)
    | some n => rw [Dist.uniq h k]
theorem IsD.symm {E : Ed} (sy : ∀ a b m, E a b m → E b a m) {a b : Nm} {o : Option Int} (h : IsD E a b o) : IsD E b a o := by
  cases o with
  | none => exact fun m p => h m (p.rev sy)
  | some m => exact Dist.symm sy h
theorem IsD.self {E : Ed} (pos : ∀ a b m, E a b m → 1 ≤ m) {a : Nm} {o : Option Int} (h : IsD E a a o) : o = some 0 := by
  have : IsD E a a (some 0) := ⟨.nil a, fun n p => p.nonneg pos⟩
  exact h.uniq this
/-- along an edge the told numbers differ by no more than it takes -/
theorem IsD.edge {E : Ed} (sy : ∀ a b m, E a b m → E b a m) {a b g : Nm} {w : Int} (e : E a b w) {o p : Option Int} (h : IsD E a g o) (k : IsD E b g p) : (o = none ∧ p = none) ∨ ∃ x y, o = some x ∧ p = some y ∧ x ≤ y + w ∧ y ≤ x + w := by
  cases o with
  | none =>
    cases p with
    | none => exact .inl ⟨rfl, rfl⟩
    | some y => exact absurd (Path.cons e k.1) (h _)
  | some x =>
    cases p with
    | none => exact absurd (Path.cons (sy _ _ _ e) h.1) (k _)
    | some y =>
      have h1 := h.2 _ (Path.cons e k.1)
      have h2 := k.2 _ (Path.cons (sy _ _ _ e) h.1)
      exact .inr ⟨x, y, rfl, rfl, by omega, by omega⟩
/-- .. and along some edge by just so many -/
theorem Dist.down {E : Ed} {a g : Nm} {x : Int} (h : Dist E a g x) (ne : a ≠ g) : ∃ b w, E a b w ∧ Dist E b g (x - w) := by
  obtain ⟨p, mn⟩ := h
  cases p with
  | nil => exact absurd rfl ne
  | @cons _ b _ w n e p =>
    refine ⟨b, w, e, ?_⟩
    rw [show w + n - w = n by omega]
    refine ⟨p, fun k q => ?_⟩
    have := mn _ (Path.cons e q)
    omega
/-! ### the search -/
abbrev Fd := List (Nm × Int × Nm)
structure St2 where
  found : Fd
  heap : List T3
abbrev keys (f : Fd) : List Nm := f.map (·.1)
def lookF (f : Fd) (v : Nm) : Option (Int × Nm) := (f.find? fun p => p.1 == v).map (·.2)
def stepS (near : Nm → List (Nm × Int)) (f : Fd) : List T3 → Option St2
  | [] => none
  | t :: ts =>
    let l := min3 t ts
    let hp := (t :: ts).erase l
    if l.2.1 ∈ keys f then some ⟨f, hp⟩ else some ⟨f ++ [(l.2.1, l.1, l.2.2)], hp ++ (near l.2.1).map fun e => (l.1 + e.2, e.1, l.2.1)⟩
/-- what holds at each turn -/
structure Inv (E : Ed) (near : Nm → List (Nm × Int)) (a : Nm) (f : Fd) (hp : List T3) : Prop where
  nd : (keys f).Nodup
  heap : ∀ t ∈ hp, (t = (0, a, a)) ∨ ∃ m p, (t.2.2, m, p) ∈ f ∧ E t.2.2 t.2.1 (t.1 - m)
  path : ∀ v m p, (v, m, p) ∈ f → Path E a v m
  mono : ∀ v m p, (v, m, p) ∈ f → ∀ t ∈ hp, m ≤ t.1
  out : ∀ v m p, (v, m, p) ∈ f → ∀ u w, E v u w → (∃ m' p', (u, m', p') ∈ f ∧ m' ≤ m + w) ∨ (m + w, u, v) ∈ hp
  start : (∃ p, (a, (0 : Int), p) ∈ f) ∨ (f = [] ∧ hp = [(0, a, a)])
theorem keys_mem {f : Fd} {v : Nm} : v ∈ keys f ↔ ∃ m p, (v, m, p) ∈ f := by
  unfold keys
  rw [List.mem_map]
  constructor
  · rintro ⟨⟨x, m, p⟩, h, rfl⟩
    exact ⟨m, p, h⟩
  · rintro ⟨m, p, h⟩
    exact ⟨_, h, rfl⟩
theorem Inv.init {E : Ed} {near : Nm → List (Nm × Int)} {a : Nm} : Inv E near a [] [(0, a, a)] where
  nd := List.nodup_nil
  heap := fun t ht => .inl (List.mem_singleton.mp ht)
  path := fun v m p h => nomatch h
  mono := fun v m p h => nomatch h
  out := fun v m p h => nomatch h
  start := .inr ⟨rfl, rfl⟩
theorem Inv.step {E : Ed} {near : Nm → List (Nm × Int)} (pos : ∀ a b m, E a b m → 1 ≤ m) (hn : ∀ u v w, E u v w ↔ (v, w) ∈ near u) {a : Nm} {f : Fd} {t : T3} {ts : List T3} (I : Inv E near a f (t :: ts)) {s : St2} (h : stepS near f (t :: ts) = some s) : Inv E near a s.found s.heap := by
  obtain ⟨l1, l2⟩ := min3_ok ts t
  unfold stepS at h
  dsimp only at h
  generalize min3 t ts = l at h l1 l2
  have sub : ∀ x ∈ (t :: ts).erase l, x ∈ t :: ts := fun x hx => List.mem_of_mem_erase hx
  have keep : ∀ x ∈ t :: ts, x = l ∨ x ∈ (t :: ts).erase l := fun x hx => by
    by_cases e : x = l
    · exact .inl e
    · exact .inr ((List.mem_erase_of_ne e).mpr hx)
  split at h
  · rename_i hin
    cases h
    obtain ⟨mv, pv, hv⟩ := keys_mem.mp hin
    refine ⟨I.nd, fun x hx => I.heap x (sub x hx), I.path, fun v m p hf x hx => I.mono v m p hf x (sub x hx), fun v m p hf u w e => ?_, ?_⟩
    · rcases I.out v m p hf u w e with q | q
      · exact .inl q
      · rcases keep _ q with q | q
        · left
          have e2 : l.2.1 = u := by rw [← q]
          rw [e2] at hv
          refine ⟨mv, pv, hv, ?_⟩
          have := I.mono _ _ _ hv _ l1
          rw [← q] at this
          exact this
        · exact .inr q
    · rcases I.start with q | ⟨q, _⟩
      · exact .inl q
      · rw [q] at hv; cases hv
  · rename_i hin
    cases h
    have hp : ∀ v m p, (v, m, p) ∈ f ++ [(l.2.1, l.1, l.2.2)] → (v, m, p) ∈ f ∨ (v = l.2.1 ∧ m = l.1 ∧ p = l.2.2) := fun v m p h => by
      rcases List.mem_append.mp h with h | h
      · exact .inl h
      · have := List.mem_singleton.mp h
        cases this
        exact .inr ⟨rfl, rfl, rfl⟩
    have lp : Path E a l.2.1 l.1 := by
      rcases I.heap l l1 with q | ⟨m, p, q1, q2⟩
      · rw [q]
        exact .nil a
      · have := (I.path _ _ _ q1).snoc q2
        rw [show m + (l.1 - m) = l.1 by omega] at this
        exact this
    have ml : ∀ v m p, (v, m, p) ∈ f ++ [(l.2.1, l.1, l.2.2)] → m ≤ l.1 := fun v m p h => by
      rcases hp v m p h with h | ⟨_, h, _⟩
      · exact I.mono v m p h l l1
      · omega
    refine ⟨?_, fun x hx => ?_, fun v m p h => ?_, fun v m p h x hx => ?_, fun v m p h u w e => ?_, ?_⟩
    · show (keys (f ++ [(l.2.1, l.1, l.2.2)])).Nodup
      unfold keys
      rw [List.map_append, List.nodup_append]
      refine ⟨I.nd, by simp, fun x hx y hy => ?_⟩
      simp at hy
      subst hy
      exact fun e => hin (e ▸ hx)
    · rcases List.mem_append.mp hx with hx | hx
      · rcases I.heap x (sub x hx) with q | ⟨m, p, q1, q2⟩
        · exact .inl q
        · exact .inr ⟨m, p, List.mem_append_left _ q1, q2⟩
      · obtain ⟨⟨v, w⟩, he, rfl⟩ := List.mem_map.mp hx
        refine .inr ⟨l.1, l.2.2, List.mem_append_right _ (List.mem_singleton.mpr rfl), ?_⟩
        show E l.2.1 v (l.1 + w - l.1)
        rw [show l.1 + w - l.1 = w by omega]
        exact (hn _ _ _).mpr he
    · rcases hp v m p h with h | ⟨rfl, rfl, _⟩
      · exact I.path v m p h
      · exact lp
    · rcases List.mem_append.mp hx with hx | hx
      · have := l2 x (sub x hx)
        have := ml v m p h
        omega
      · obtain ⟨⟨u, w⟩, he, rfl⟩ := List.mem_map.mp hx
        have := ml v m p h
        have := pos _ _ _ ((hn _ _ _).mpr he)
        show m ≤ l.1 + w
        omega
    · rcases hp v m p h with h | ⟨rfl, rfl, rfl⟩
      · rcases I.out v m p h u w e with ⟨m', p', q1, q2⟩ | q
        · exact .inl ⟨m', p', List.mem_append_left _ q1, q2⟩
        · rcases keep _ q with q | q
          · left
            refine ⟨l.1, l.2.2, List.mem_append_right _ (List.mem_singleton.mpr ?_), ?_⟩
            · rw [← q]
            · rw [← q]
              exact Int.le_refl _
          · exact .inr (List.mem_append_left _ q)
      · right
        refine List.mem_append_right _ (List.mem_map.mpr ⟨(u, w), (hn _ _ _).mp e, rfl⟩)
    · left
      rcases I.start with ⟨p, q⟩ | ⟨q1, q2⟩
      · exact ⟨p, List.mem_append_left _ q⟩
      · have e : l = (0, a, a) := by
          rw [q2] at l1
          exact List.mem_singleton.mp l1
        exact ⟨a, List.mem_append_right _ (by rw [e]; simp)⟩
/-- at the end -/
theorem Inv.done {E : Ed} {near : Nm → List (Nm × Int)} {a : Nm} {f : Fd} (I : Inv E near a f []) (b : Nm) : (∀ m p, (b, m, p) ∈ f → Dist E a b m) ∧ (b ∉ keys f → ∀ m, ¬ Path E a b m) := by
  have key : ∀ {x y : Nm} {n : Int}, Path E x y n → ∀ m p, (x, m, p) ∈ f → ∃ m' p', (y, m', p') ∈ f ∧ m' ≤ m + n := by
    intro x y n pth
    induction pth with
    | nil x => intro m p h; exact ⟨m, p, h, by omega⟩
    | cons e p ih =>
      intro m q h
      rcases I.out _ _ _ h _ _ e with ⟨m1, p1, h1, h2⟩ | h1
      · obtain ⟨m2, p2, h3, h4⟩ := ih m1 p1 h1
        exact ⟨m2, p2, h3, by omega⟩
      · cases h1
  have st : ∃ p, (a, (0 : Int), p) ∈ f := by
    rcases I.start with h | ⟨_, h⟩
    · exact h
    · cases h
  obtain ⟨p0, h0⟩ := st
  have one : ∀ {v : Nm} {m m' : Int} {p p' : Nm}, (v, m, p) ∈ f → (v, m', p') ∈ f → m = m' ∧ p = p' := by
    intro v m m' p p' h k
    have nd := I.nd
    clear I key h0
    unfold keys at nd
    induction f with
    | nil => cases h
    | cons x f ih =>
      rw [List.map_cons, List.nodup_cons] at nd
      rcases List.mem_cons.mp h with h | h
      · rcases List.mem_cons.mp k with k | k
        · rw [← h] at k
          cases k
          exact ⟨rfl, rfl⟩
        · exact absurd (List.mem_map_of_mem (f := (·.1)) k) (by rw [← h] at nd; exact nd.1)
      · rcases List.mem_cons.mp k with k | k
        · exact absurd (List.mem_map_of_mem (f := (·.1)) h) (by rw [← k] at nd; exact nd.1)
        · exact ih h k nd.2
  refine ⟨fun m p h => ⟨I.path b m p h, fun n q => ?_⟩, fun hb m q => ?_⟩
  · obtain ⟨m', p', h1, h2⟩ := key q 0 p0 h0
    have := (one h h1).1
    omega
  · obtain ⟨m', p', h1, _⟩ := key q 0 p0 h0
    exact hb (keys_mem.mpr ⟨m', p', h1⟩)
end Rb
namespace Rb
open PySem PySem.Spec L2 Mp
abbrev Sb (s : Sto) : Prop := s.all (Cell.below s.length) = true
theorem cut_app {s : Sto} {d : D} {c : Cell} (hs : Sb s) (hd : below s.length d = true) : cut s.length d (s ++ [c]) = .ok d s := by
  unfold Mp.cut
  have e : (s ++ [c]).take s.length = s := by simp
  rw [if_neg (by simp), if_pos (by rw [e, hd, hs]; simp), e]
theorem frz_step {δ : Mp.Env} {s : Sto} {i : Nat} {xs : List D} (h : δ[i]? = some (some (.loc s.length))) : sFrz i δ (s ++ [.lst xs]) = .nx (δ.set i (some (.lst xs))) (s ++ [.dead]) := by
  unfold sFrz
  rw [h]
  simp [frzD]
theorem nd_at {names : List (List Nat)} (nd : names.Nodup) {i j : Nat} {z : List Nat} (hi : names[i]? = some z) (hj : names[j]? = some z) : i = j := by
  obtain ⟨a1, a2⟩ := List.getElem?_eq_some_iff.mp hi
  obtain ⟨b1, b2⟩ := List.getElem?_eq_some_iff.mp hj
  have p := List.pairwise_iff_getElem.mp nd
  rcases Nat.lt_trichotomy i j with h | h | h
  · exact absurd (a2.trans b2.symm) (p i j a1 b1 h)
  · exact h
  · exact absurd (b2.trans a2.symm) (p j i b1 a1 h)
/-! ### dicts by names -/
abbrev Ps := List (List Nat × D)
abbrev ky (P : Ps) : List D := P.map fun p => D.str p.1
abbrev vl (P : Ps) : List D := P.map fun p => p.2
theorem lk_no {z : List Nat} : ∀ {P : Ps}, z ∉ P.map (·.1) → lkD (.str z) (ky P) (vl P) = none ∧ ((ky P).any fun c => eqK c (.str z)) = false
  | [], _ => ⟨rfl, rfl⟩
  | t :: ts, h => by
    rw [List.map_cons, List.mem_cons, not_or] at h
    obtain ⟨h1, h2⟩ := lk_no (P := ts) h.2
    have e : (t.1 == z) = false := by
      rw [beq_eq_false_iff_ne]
      exact fun q => h.1 q.symm
    refine ⟨?_, ?_⟩
    · show (if eqK (.str t.1) (.str z) = true then _ else lkD (.str z) (ky ts) (vl ts)) = none
      rw [eqK_str, e, if_neg Bool.false_ne_true]
      exact h1
    · show (eqK (.str t.1) (.str z) || (ky ts).any fun c => eqK c (.str z)) = false
      rw [eqK_str, e, h2]
      rfl
theorem lk_yes : ∀ {P : Ps} {t : List Nat × D}, (P.map (·.1)).Nodup → t ∈ P → lkD (.str t.1) (ky P) (vl P) = some t.2
  | [], t, _, h => by cases h
  | u :: ts, t, nd, h => by
    rw [List.map_cons] at nd
    obtain ⟨n1, n2⟩ := List.nodup_cons.mp nd
    show (if eqK (.str u.1) (.str t.1) = true then some u.2 else lkD (.str t.1) (ky ts) (vl ts)) = _
    rcases List.mem_cons.mp h with rfl | h
    · rw [eqK_str, if_pos (by simp)]
    · have : (u.1 == t.1) = false := by
        rw [beq_eq_false_iff_ne]
        exact fun q => n1 (by rw [q]; exact List.mem_map_of_mem h)
      rw [eqK_str, this, if_neg Bool.false_ne_true]
      exact lk_yes n2 h
theorem lk_mem {z : List Nat} : ∀ {P : Ps}, z ∈ P.map (·.1) → ∃ v, lkD (.str z) (ky P) (vl P) = some v
  | [], h => by cases h
  | u :: ts, h => by
    by_cases e : u.1 = z
    · exact ⟨u.2, by show (if eqK (.str u.1) (.str z) = true then some u.2 else _) = _; rw [eqK_str, if_pos (by simpa using e)]⟩
    · rw [List.map_cons] at h
      rcases List.mem_cons.mp h with q | q
      · exact absurd q.symm e
      · obtain ⟨v, hv⟩ := lk_mem q
        refine ⟨v, ?_⟩
        show (if eqK (.str u.1) (.str z) = true then some u.2 else lkD (.str z) (ky ts) (vl ts)) = _
        rw [eqK_str, if_neg (by simpa using e)]
        exact hv
theorem set_new {P : Ps} {z : List Nat} {d : D} (h : z ∉ P.map (·.1)) : setK (.str z) (ky P) = ky (P ++ [(z, d)]) ∧ setD (.str z) d (ky P) (vl P) = vl (P ++ [(z, d)]) := by
  obtain ⟨_, l2⟩ := lk_no h
  constructor
  · unfold setK
    rw [l2]
    simp [ky]
  · unfold setD
    rw [l2]
    simp [vl]
/-! ### stores -/
theorem get_app {s r : Sto} {i : Nat} : (s ++ r)[s.length + i]? = r[i]? := by
  rw [List.getElem?_append_right (by omega), show s.length + i - s.length = i by omega]
theorem get_app0 {s r : Sto} : (s ++ r)[s.length]? = r[0]? := get_app (i := 0)
theorem set_app {s r : Sto} {i : Nat} {c : Cell} : (s ++ r).set (s.length + i) c = s ++ r.set i c := by
  rw [List.set_append_right _ _ (by omega), show s.length + i - s.length = i by omega]
theorem set_app0 {s r : Sto} {c : Cell} : (s ++ r).set s.length c = s ++ r.set 0 c := set_app (i := 0)
theorem cut_keep {n : Nat} {d : D} {s : Sto} (h : (s.take n).all (Cell.below n) = false) : cut n d s = .ok d s := by
  unfold Mp.cut
  split
  · rfl
  · rw [h]
    simp
theorem cut_back {s r : Sto} {d : D} (hs : Sb s) (hd : below s.length d = true) : cut s.length d (s ++ r) = .ok d s := by
  unfold Mp.cut
  have e : (s ++ r).take s.length = s := by simp
  split
  · rename_i h
    have : r = [] := by
      rw [List.length_append] at h
      exact List.length_eq_zero_iff.mp (by omega)
    rw [this, List.append_nil]
  · rw [if_pos (by rw [e, hd, hs]; simp), e]
theorem sb_at {s : Sto} (h : Sb s) {i : Nat} {c : Cell} (hi : s[i]? = some c) : Cell.below s.length c = true := List.all_eq_true.mp h c (List.mem_of_getElem? hi)
theorem sb_set {s : Sto} (h : Sb s) {i : Nat} {c : Cell} (hc : Cell.below s.length c = true) : Sb (s.set i c) := by
  unfold Sb
  rw [List.length_set, List.all_eq_true]
  intro x hx
  rcases List.mem_or_eq_of_mem_set hx with hx | hx
  · exact List.all_eq_true.mp h x hx
  · rw [hx]; exact hc
theorem back_ok {s : Sto} {n : Nat} {xs : List D} {d : D} (h : s[n]? = some (.lst xs)) : (Res.ok d (s.set n .dead)).back n xs = .ok d s := by
  have hl := (List.getElem?_eq_some_iff.mp h).1
  unfold Res.back bkS
  dsimp only
  rw [List.getElem?_set_self hl]
  dsimp only
  rw [List.set_set]
  congr 1
  refine List.ext_getElem? fun j => ?_
  by_cases e : n = j
  · subst e
    rw [List.getElem?_set_self hl, h]
  · rw [List.getElem?_set_ne e]
/-! ### pairs -/
theorem okS_nm {z : List Nat} (h : NmOk z) : okS z = true := by
  unfold okS
  rw [List.all_eq_true]
  intro c hc
  have := h.2.2 c hc
  simp
  omega
def pr (p : Nm × Nm) : D := .tup [.str p.1, .str p.2]
theorem any_pr {q : Nm × Nm} : ∀ Q : List (Nm × Nm), ((Q.map pr).any fun z => eqD z (pr q)) = decide (q ∈ Q)
  | [] => rfl
  | p :: Q => by
    rw [List.map_cons, List.any_cons, any_pr Q]
    have e : eqD (pr p) (pr q) = decide (p = q) := by
      obtain ⟨a, b⟩ := p
      obtain ⟨c, d⟩ := q
      show (a == c && (b == d && true)) = _
      rw [Bool.eq_iff_iff]
      simp
    rw [e]
    rw [Bool.eq_iff_iff]
    simp
    constructor
    · rintro (h | h)
      · exact .inl h.symm
      · exact .inr h
    · rintro (h | h)
      · exact .inl h.symm
      · exact .inr h
theorem dat_pr {n : Nat} {p : Nm × Nm} (h1 : NmOk p.1) (h2 : NmOk p.2) : datD (n + 1) (pr p) = true := by
  show datDs n [.str p.1, .str p.2] = true
  simp [okS_nm h1, okS_nm h2]
theorem dats_pr {n : Nat} : ∀ {Q : List (Nm × Nm)}, (∀ p ∈ Q, NmOk p.1 ∧ NmOk p.2) → datDs (n + 1) (Q.map pr) = true
  | [], _ => by simp
  | p :: Q, h => by
    rw [List.map_cons, datDs_cons, dats_pr fun q hq => h q (List.mem_cons_of_mem _ hq), dat_pr (h p List.mem_cons_self).1 (h p List.mem_cons_self).2]
    rfl
/-! ### the net -/
abbrev Wn3 := Nm × Nm × Int
def wD (w : Wn3) : D := .tup [.str w.1, .str w.2.1, .int w.2.2]
abbrev NetL (o : Nat) (A : Ps) (W : List Wn3) : Sto := [.obj 19 [2, 3, 4, 5, 6] [.loc (o + 1), .loc (o + 2), .loc (o + 3), .loc (o + 4), .loc (o + 5)], .dct (ky A) (vl A), .lst (W.map wD), .dct [] [], .dct [] [], .dct [] []]
structure Nt (n : Nat) (A : Ps) (W : List Wn3) (s : Sto) : Prop where
  o : s[n]? = some (.obj 19 [2, 3, 4, 5, 6] [.loc (n + 1), .loc (n + 2), .loc (n + 3), .loc (n + 4), .loc (n + 5)])
  a : s[n + 1]? = some (.dct (ky A) (vl A))
  w : s[n + 2]? = some (.lst (W.map wD))
theorem nt_app {s r : Sto} {A : Ps} {W : List Wn3} : Nt s.length A W (s ++ (NetL s.length A W ++ r)) := ⟨get_app0, get_app, get_app⟩
theorem nt_app0 {s : Sto} {A : Ps} {W : List Wn3} : Nt s.length A W (s ++ NetL s.length A W) := ⟨get_app0, get_app, get_app⟩
theorem p_netinit {s : Sto} : mkO 19 f_Net___init__ [] s = .ok (.loc s.length) (s ++ NetL s.length [] []) := by
  have key : g_Net___init__ [some (.loc s.length)] (s ++ [.obj 19 [] []]) = .nx [some (.loc s.length)] (s ++ NetL s.length [] []) := by
    unfold g_Net___init__
    refine seq_step (δ' := [some (.loc s.length)]) (s' := s ++ [.obj 19 [2] [.loc (s.length + 1)], .dct [] []]) (by simp [get_app0, set_app0, List.append_assoc]) ?_
    refine seq_step (δ' := [some (.loc s.length)]) (s' := s ++ [.obj 19 [2, 3] [.loc (s.length + 1), .loc (s.length + 2)], .dct [] [], .lst []]) (by simp [get_app0, set_app0, List.append_assoc, lim_eq]) ?_
    refine seq_step (δ' := [some (.loc s.length)]) (s' := s ++ [.obj 19 [2, 3, 4] [.loc (s.length + 1), .loc (s.length + 2), .loc (s.length + 3)], .dct [] [], .lst [], .dct [] []]) (by simp [get_app0, set_app0, List.append_assoc]) ?_
    refine seq_step (δ' := [some (.loc s.length)]) (s' := s ++ [.obj 19 [2, 3, 4, 5] [.loc (s.length + 1), .loc (s.length + 2), .loc (s.length + 3), .loc (s.length + 4)], .dct [] [], .lst [], .dct [] [], .dct [] []]) (by simp [get_app0, set_app0, List.append_assoc]) ?_
    simp [get_app0, set_app0, List.append_assoc]
  have e : f_Net___init__ [.loc s.length] (s ++ [.obj 19 [] []]) = .ok .non (s ++ NetL s.length [] []) := by
    show finO (s ++ [Cell.obj 19 [] []]).length (g_Net___init__ [some (.loc s.length)] (s ++ [.obj 19 [] []])) = _
    rw [key, fin_nx, List.length_append]
    refine cut_keep ?_
    have : (s ++ NetL s.length [] []).take (s.length + 1) = s ++ [.obj 19 [2, 3, 4, 5, 6] [.loc (s.length + 1), .loc (s.length + 2), .loc (s.length + 3), .loc (s.length + 4), .loc (s.length + 5)]] := by
      rw [List.take_append, List.take_of_length_le (by omega)]
      simp
    show ((s ++ NetL s.length [] []).take (s.length + 1)).all (Cell.below (s.length + 1)) = false
    rw [this, List.all_append]
    simp [Cell.below, below, belows]
  unfold mkO
  rw [e]
theorem p_need {a lo hi : Int} {s : Sto} (h : lo ≤ a ∧ a ≤ hi) : f_need_among [.int a, .int lo, .int hi] s = .ok .non s := by
  simp [f_need_among, mkF, g_need_among, p_among, h]
theorem p_fresh {P : Ps} {z : List Nat} {n : Nat} {s : Sto} (hz : NmOk z) (h : s[n]? = some (.dct (ky P) (vl P))) (hn : z ∉ P.map (·.1)) : f_need_fresh [.str z, .loc n] s = .ok .non s := by
  simp [f_need_fresh, mkF, g_need_fresh, p_isname hz, h, (lk_no hn).1]
theorem p_room {P : Ps} {n : Nat} {m : Int} {s : Sto} (h : s[n]? = some (.dct (ky P) (vl P))) (hl : (P.length : Int) < m) : f_need_room [.loc n, .int m] s = .ok .non s := by
  have : ¬ m ≤ P.length := by omega
  simp [f_need_room, mkF, g_need_room, bLenA_loc (n := n) (s := s) h, this]
theorem p_roomL {xs : List D} {n : Nat} {m : Int} {s : Sto} (h : s[n]? = some (.lst xs)) (hl : (xs.length : Int) < m) : f_need_room [.loc n, .int m] s = .ok .non s := by
  have h1 : ¬ m ≤ xs.length := by omega
  have h2 : bLenA [.loc n] s = .ok (.int xs.length) s := by
    unfold bLenA
    simp only [dcOf_loc, h]
    unfold bLen
    simp [h]
  simp [f_need_room, mkF, g_need_room, h2, h1]
theorem p_nstop {o : Nat} {A : Ps} {W : List Wn3} {z : List Nat} {s : Sto} (h : Nt o A W s) (hz : NmOk z) (hm : z ∈ A.map (·.1)) : f_Net_need_stop [.loc o, .str z] s = .ok .non s := by
  obtain ⟨v, hv⟩ := lk_mem hm
  simp [f_Net_need_stop, mkF, g_Net_need_stop, p_isname hz, h.o, h.a, hv]
theorem p_addstop {o : Nat} {A : Ps} {W : List Wn3} {z : List Nat} {v c : Int} {s : Sto} (h : Nt o A W s) (hz : NmOk z) (hn : z ∉ A.map (·.1)) (hl : A.length < 8) (hv : 1 ≤ v ∧ v ≤ 6) (hc : 0 ≤ c ∧ c ≤ 30) :
    f_Net_add_stop [.loc o, .str z, .int v, .int c] s = .ok .non (s.set (o + 1) (.dct (ky (A ++ [(z, .tup [.int v, .int c])])) (vl (A ++ [(z, .tup [.int v, .int c])])))) := by
  have e1 := p_fresh hz h.a hn
  have e2 := p_need (s := s) hv
  have e3 := p_need (s := s) hc
  have e4 := p_room (m := 8) h.a (by omega)
  obtain ⟨e6, e7⟩ := set_new (d := .tup [.int v, .int c]) hn
  have key : g_Net_add_stop [some (.loc o), some (.str z), some (.int v), some (.int c)] s = .nx [some (.loc o), some (.str z), some (.int v), some (.int c)] (s.set (o + 1) (.dct (ky (A ++ [(z, .tup [.int v, .int c])])) (vl (A ++ [(z, .tup [.int v, .int c])])))) := by
    unfold g_Net_add_stop
    refine seq_step (δ' := [some (.loc o), some (.str z), some (.int v), some (.int c)]) (s' := s) (by simp [h.o, e1]) ?_
    refine seq_step (δ' := [some (.loc o), some (.str z), some (.int v), some (.int c)]) (s' := s) (by simp [e2]) ?_
    refine seq_step (δ' := [some (.loc o), some (.str z), some (.int v), some (.int c)]) (s' := s) (by simp [e3]) ?_
    refine seq_step (δ' := [some (.loc o), some (.str z), some (.int v), some (.int c)]) (s' := s) (by simp [h.o, e4]) ?_
    have hl2 : A.length < 1000 := by omega
    simp [lim_eq, hl2, h.o, h.a, e6, e7]
  show finO s.length (g_Net_add_stop [some (.loc o), some (.str z), some (.int v), some (.int c)] s) = _
  rw [key, fin_nx]
  exact cut_len (by rw [List.length_set])
theorem p_addwalk {o : Nat} {A : Ps} {W : List Wn3} {a b : Nm} {m : Int} {s : Sto} (h : Nt o A W s) (ha : NmOk a ∧ a ∈ A.map (·.1)) (hb : NmOk b ∧ b ∈ A.map (·.1)) (ne : a ≠ b) (hW : ∀ w ∈ W, NmOk w.1 ∧ NmOk w.2.1 ∧ (w.1, w.2.1) ≠ (a, b) ∧ (w.1, w.2.1) ≠ (b, a)) (hm : 1 ≤ m ∧ m ≤ 60) (hl : W.length < 12) :
    f_Net_add_walk [.loc o, .str a, .str b, .int m] s = .ok .non (s.set (o + 2) (.lst ((W ++ [(a, b, m)]).map wD))) := by
  have e1 := p_nstop h ha.1 ha.2
  have e2 := p_nstop h hb.1 hb.2
  have e3 := p_need (s := s) hm
  have e4 := p_roomL (m := 12) h.w (by rw [List.length_map]; omega)
  have c := lcL_map (s := s.set (o + 2) .dead) (δ := [some (.loc o), some (.str a), some (.str b), some (.int m), none, none]) (t := tgN 5) (e := dSl (dVar 5) pNone (pSome (dC (.int 2)))) (fun d => match d with | .tup [x, y, _] => .tup [x, y] | _ => .non) (W.map wD) [] (by rw [lim_eq]; simp; omega) (by
    intro d hd
    obtain ⟨w, hw, rfl⟩ := List.mem_map.mp hd
    exact ⟨_, rfl, rfl⟩)
  have ec : (W.map wD).map (fun d => match d with | .tup [x, y, _] => D.tup [x, y] | _ => .non) = (W.map fun w => (w.1, w.2.1)).map pr := by
    rw [List.map_map, List.map_map]
    rfl
  rw [ec, List.nil_append] at c
  have hq : ∀ p ∈ W.map (fun w => (w.1, w.2.1)), NmOk p.1 ∧ NmOk p.2 := fun p hp => by
    obtain ⟨w, hw, rfl⟩ := List.mem_map.mp hp
    exact ⟨(hW w hw).1, (hW w hw).2.1⟩
  have n1 : (a, b) ∉ W.map (fun w => (w.1, w.2.1)) := fun q => by
    obtain ⟨w, hw, e⟩ := List.mem_map.mp q
    exact (hW w hw).2.2.1 e
  have n2 : (b, a) ∉ W.map (fun w => (w.1, w.2.1)) := fun q => by
    obtain ⟨w, hw, e⟩ := List.mem_map.mp q
    exact (hW w hw).2.2.2 e
  have i1 : oInX false (.tup [.str a, .str b]) (.lst ((W.map fun w => (w.1, w.2.1)).map pr)) s = .ok (.bl false) s := by
    have q := oInX_ok (neg := false) (s := s) (y := .lst ((W.map fun w => (w.1, w.2.1)).map pr)) (dat_pr (p := (a, b)) (n := 7) ha.1 hb.1) (dats_pr (n := 62) hq) rfl
    rw [any_pr, decide_eq_false n1] at q
    exact q
  have i2 : oInX false (.tup [.str b, .str a]) (.lst ((W.map fun w => (w.1, w.2.1)).map pr)) s = .ok (.bl false) s := by
    have q := oInX_ok (neg := false) (s := s) (y := .lst ((W.map fun w => (w.1, w.2.1)).map pr)) (dat_pr (p := (b, a)) (n := 7) hb.1 ha.1) (dats_pr (n := 62) hq) rfl
    rw [any_pr, decide_eq_false n2] at q
    exact q
  generalize ((W.map fun w => (w.1, w.2.1)).map pr) = Q at c i1 i2
  have ab : (a == b) = false := by simpa using ne
  have key : g_Net_add_walk [some (.loc o), some (.str a), some (.str b), some (.int m), none, none] s = .nx [some (.loc o), some (.str a), some (.str b), some (.int m), some (.lst Q), none] (s.set (o + 2) (.lst ((W ++ [(a, b, m)]).map wD))) := by
    unfold g_Net_add_walk
    refine seq_step (δ' := [some (.loc o), some (.str a), some (.str b), some (.int m), none, none]) (s' := s) (by
      simp only [sDrop_eq, dMeth_eq, dVar_eq, List.getElem?_cons_succ, List.getElem?_cons_zero, bind_ok, aCons_eq, aNil_eq, obOf_loc, h.o]
      simp [List.lookup, e1]) ?_
    refine seq_step (δ' := [some (.loc o), some (.str a), some (.str b), some (.int m), none, none]) (s' := s) (by
      simp only [sDrop_eq, dMeth_eq, dVar_eq, List.getElem?_cons_succ, List.getElem?_cons_zero, bind_ok, aCons_eq, aNil_eq, obOf_loc, h.o]
      simp [List.lookup, e2]) ?_
    refine seq_step (δ' := [some (.loc o), some (.str a), some (.str b), some (.int m), some (.lst Q), none]) (s' := s) (by
      have fl : dFld csT 7 3 (dVar 0) [some (.loc o), some (.str a), some (.str b), some (.int m), none, none] s = .ok (.loc (o + 2)) s := by simp [h.o]
      rw [sSet_eq, dLcA_eq, fl]
      simp only [bind_ok, itCel_loc, h.w, backO_some, wipeE_cons, wipeE_nil, List.set]
      rw [c, back_ok h.w]
      rfl) ?_
    refine seq_step (δ' := [some (.loc o), some (.str a), some (.str b), some (.int m), some (.lst Q), none]) (s' := s) (by simp [ab, i1, i2, lim_eq]) ?_
    refine seq_step (δ' := [some (.loc o), some (.str a), some (.str b), some (.int m), some (.lst Q), none]) (s' := s) (by simp [e3]) ?_
    refine seq_step (δ' := [some (.loc o), some (.str a), some (.str b), some (.int m), some (.lst Q), none]) (s' := s) (by simp [h.o, e4]) ?_
    have hl2 : W.length < 1000000 := by omega
    simp [lim_eq, h.o, h.w, hl2, wD]
  show finO s.length (g_Net_add_walk [some (.loc o), some (.str a), some (.str b), some (.int m), none, none] s) = _
  rw [key, fin_nx]
  exact cut_len (by rw [List.length_set])
theorem p_stops {o : Nat} {A : Ps} {W : List Wn3} {s : Sto} (h : Nt o A W s) : f_Net_stops [.loc o] s = .ok (.lst (ky A)) s := by
  simp [f_Net_stops, mkF, g_Net_stops, h.o, bListA_loc h.a]
theorem p_walks {o : Nat} {A : Ps} {W : List Wn3} {s : Sto} (h : Nt o A W s) : f_Net_walks [.loc o] s = .ok (.lst (W.map wD)) s := by
  simp [f_Net_walks, mkF, g_Net_walks, h.o, h.w]
end Rb
namespace Rb
open PySem PySem.Spec L2 Mp
/-! ### walks by numbers -/
abbrev Wi3 := Nat × Nat × Int
def wI (w : Wi3) : D := .tup [.int w.1, .int w.2.1, .int w.2.2]
def wS (w : Wi3) : D := .tup [.int w.1, .int w.2.1]
structure WOk (n : Nat) (W : List Wi3) : Prop where
  rg : ∀ w ∈ W, w.1 < n ∧ w.2.1 < n ∧ w.1 ≠ w.2.1 ∧ 1 ≤ w.2.2 ∧ w.2.2 ≤ 60
  pw : W.Pairwise fun u v => (u.1, u.2.1) ≠ (v.1, v.2.1) ∧ (u.1, u.2.1) ≠ (v.2.1, v.1)
def pn (p : Nat × Nat) : D := .tup [.int p.1, .int p.2]
theorem any_pn {q : Nat × Nat} : ∀ Q : List (Nat × Nat), ((Q.map pn).any fun z => eqD z (pn q)) = decide (q ∈ Q)
  | [] => rfl
  | p :: Q => by
    rw [List.map_cons, List.any_cons, any_pn Q]
    have e : eqD (pn p) (pn q) = decide (p = q) := by
      obtain ⟨a, b⟩ := p
      obtain ⟨c, d⟩ := q
      show ((a : Int) == (c : Int) && ((b : Int) == (d : Int) && true)) = _
      rw [Bool.eq_iff_iff]
      simp [Int.ofNat_inj]
    rw [e]
    rw [Bool.eq_iff_iff]
    simp
    constructor
    · rintro (h | h)
      · exact .inl h.symm
      · exact .inr h
    · rintro (h | h)
      · exact .inl h.symm
      · exact .inr h
theorem dat_pn {n : Nat} {p : Nat × Nat} : datD (n + 1) (pn p) = true := by
  show datDs n [.int p.1, .int p.2] = true
  simp
theorem dats_pn {n : Nat} : ∀ {Q : List (Nat × Nat)}, datDs (n + 1) (Q.map pn) = true
  | [] => by simp
  | p :: Q => by
    rw [List.map_cons, datDs_cons, dats_pn, dat_pn]
    rfl
theorem below_wI {n : Nat} : ∀ W : List Wi3, belows n (W.map wI) = true
  | [] => rfl
  | w :: W => by
    rw [List.map_cons]
    show (below n (wI w) && belows n (W.map wI)) = true
    rw [below_wI W]
    rfl
theorem st_next8 {n x st : Int} (hn : 2 ≤ n ∧ n ≤ 8) (hx : 0 ≤ x) (h0 : 0 ≤ st ∧ st < n) : 0 ≤ (st + 1 + x % (n - 1)) % n ∧ (st + 1 + x % (n - 1)) % n < n ∧ (st + 1 + x % (n - 1)) % n ≠ st := by
  have hc : n = 2 ∨ n = 3 ∨ n = 4 ∨ n = 5 ∨ n = 6 ∨ n = 7 ∨ n = 8 := by omega
  rcases hc with rfl | rfl | rfl | rfl | rfl | rfl | rfl <;> (simp only [show (2 : Int) - 1 = 1 by decide, show (3 : Int) - 1 = 2 by decide, show (4 : Int) - 1 = 3 by decide, show (5 : Int) - 1 = 4 by decide, show (6 : Int) - 1 = 5 by decide, show (7 : Int) - 1 = 6 by decide, show (8 : Int) - 1 = 7 by decide]; omega)
theorem wk_loop {ns : List Int} {k : Int} {n : Nat} {o3 : Option D} {s : Sto} (hk : 0 ≤ k ∧ k < 1000) (hn : 2 ≤ n ∧ n ≤ 8) : ∀ (js : List Int) (W : List Wi3) (o6 o7 o8 o9 : Option D), (∀ j ∈ js, 0 ≤ j ∧ j < 100) → WOk n W → W.length + js.length ≤ 12 →
    ∃ (W' : List Wi3) (p6 p7 p8 p9 : Option D), WOk n W' ∧ W'.length ≤ 12 ∧ forL (tgN 6) g__law_walks_b1 (js.map D.int) [some (.scr ns), some (.int k), some (.int (n : Int)), o3, some (.loc s.length), some (.loc (s.length + 1)), o6, o7, o8, o9] (s ++ [.lst (W.map wI), .lst (W.map wS)]) =
      .nx [some (.scr ns), some (.int k), some (.int (n : Int)), o3, some (.loc s.length), some (.loc (s.length + 1)), p6, p7, p8, p9] (s ++ [.lst (W'.map wI), .lst (W'.map wS)])
  | [], W, o6, o7, o8, o9, _, hW, hl => ⟨W, _, _, _, _, hW, by simpa using hl, rfl⟩
  | j :: js, W, o6, o7, o8, o9, hj, hW, hl => by
    rw [List.length_cons] at hl
    have hj0 := hj j List.mem_cons_self
    obtain ⟨x, x0, x1, e1⟩ := p_drawA (ns := ns) (k := k + j) (by omega)
    have a0 : 0 ≤ x % (n : Int) := Int.emod_nonneg _ (by omega)
    have a1 : x % (n : Int) < n := Int.emod_lt_of_pos _ (by omega)
    obtain ⟨t0, t1, t2⟩ := st_next8 (n := n) (x := x / 8) (st := x % (n : Int)) (by omega) (by omega) ⟨a0, a1⟩
    generalize hb : (x % (n : Int) + 1 + x / 8 % ((n : Int) - 1)) % (n : Int) = b at t0 t1 t2
    generalize ha : x % (n : Int) = a at a0 a1 t2 hb
    obtain ⟨i, rfl⟩ := Int.eq_ofNat_of_zero_le a0
    obtain ⟨i', rfl⟩ := Int.eq_ofNat_of_zero_le t0
    obtain ⟨m1, h1, v, rfl, hv⟩ := atI_ex (xs := [D.int 60, D.int 9, D.int 3]) (i := x / 4096 % 3) (Q := fun d => ∃ v, d = .int v ∧ 0 < v ∧ v ≤ 60) (by omega) (by simp; omega) (by simp)
    have q3 : 0 ≤ x / 64 % v := Int.emod_nonneg _ (by omega)
    have q4 : x / 64 % v < v := Int.emod_lt_of_pos _ hv.1
    have w1 : (0 : Int) < n := by omega
    have w2 : (1 : Int) < n := by omega
    have w1' : 0 < n := by omega
    have w2' : 1 < n := by omega
    have es : W.map wS = (W.map fun w => (w.1, w.2.1)).map pn := by rw [List.map_map]; rfl
    have i1 : oInX true (.tup [.int (i : Int), .int (i' : Int)]) (.loc (s.length + 1)) (s ++ [.lst (W.map wI), .lst (W.map wS)]) = .ok (.bl (true != decide ((i, i') ∈ W.map fun w => (w.1, w.2.1)))) (s ++ [.lst (W.map wI), .lst (W.map wS)]) := by
      have q := oInX_ok (neg := true) (s := s ++ [.lst (W.map wI), .lst (W.map wS)]) (x := pn (i, i')) (y := .loc (s.length + 1)) (ys := (W.map fun w => (w.1, w.2.1)).map pn) (dat_pn (n := 7)) (dats_pn (n := 62)) (by rw [sqD_loc, get_app]; simp [es])
      rw [any_pn] at q
      exact q
    have i2 : oInX true (.tup [.int (i' : Int), .int (i : Int)]) (.loc (s.length + 1)) (s ++ [.lst (W.map wI), .lst (W.map wS)]) = .ok (.bl (true != decide ((i', i) ∈ W.map fun w => (w.1, w.2.1)))) (s ++ [.lst (W.map wI), .lst (W.map wS)]) := by
      have q := oInX_ok (neg := true) (s := s ++ [.lst (W.map wI), .lst (W.map wS)]) (x := pn (i', i)) (y := .loc (s.length + 1)) (ys := (W.map fun w => (w.1, w.2.1)).map pn) (dat_pn (n := 7)) (dats_pn (n := 62)) (by rw [sqD_loc, get_app]; simp [es])
      rw [any_pn] at q
      exact q
    have e1' := e1 (s ++ [.lst (W.map wI), .lst (W.map wS)])
    by_cases c : (i, i') ∉ W.map (fun w => (w.1, w.2.1)) ∧ (i', i) ∉ W.map (fun w => (w.1, w.2.1))
    · have hW' : WOk n (W ++ [(i, i', 1 + x / 64 % v)]) := by
        refine ⟨fun w hw => ?_, ?_⟩
        · rcases List.mem_append.mp hw with hw | hw
          · exact hW.rg w hw
          · rw [List.mem_singleton.mp hw]
            refine ⟨by show i < n; omega, by show i' < n; omega, ?_, by show 1 ≤ 1 + x / 64 % v; omega, by show 1 + x / 64 % v ≤ 60; omega⟩
            show i ≠ i'
            intro e
            exact t2 (by rw [e])
        · rw [List.pairwise_append]
          refine ⟨hW.pw, List.pairwise_singleton _ _, fun u hu w hw => ?_⟩
          rw [List.mem_singleton.mp hw]
          exact ⟨fun e => c.1 (by rw [← e]; exact List.mem_map_of_mem (f := fun w : Wi3 => (w.1, w.2.1)) hu), fun e => c.2 (by rw [← e]; exact List.mem_map_of_mem (f := fun w : Wi3 => (w.1, w.2.1)) hu)⟩
      obtain ⟨W', p6, p7, p8, p9, g0, g1, g2⟩ := wk_loop (ns := ns) (o3 := o3) (s := s) hk hn js (W ++ [(i, i', 1 + x / 64 % v)]) (some (.int j)) (some (.int x)) (some (.int (i : Int))) (some (.int (i' : Int))) (fun y hy => hj y (List.mem_cons_of_mem _ hy)) hW' (by rw [List.length_append, List.length_singleton]; omega)
      refine ⟨W', p6, p7, p8, p9, g0, g1, ?_⟩
      rw [decide_eq_false c.1] at i1
      rw [decide_eq_false c.2] at i2
      have hl2 : W.length < 1000000 := by omega
      rw [List.map_cons, forL_next (δ1 := [some (.scr ns), some (.int k), some (.int (n : Int)), o3, some (.loc s.length), some (.loc (s.length + 1)), some (.int j), o7, o8, o9]) (δ2 := [some (.scr ns), some (.int k), some (.int (n : Int)), o3, some (.loc s.length), some (.loc (s.length + 1)), some (.int j), some (.int x), some (.int (i : Int)), some (.int (i' : Int))]) (s2 := s ++ [.lst ((W ++ [(i, i', 1 + x / 64 % v)]).map wI), .lst ((W ++ [(i, i', 1 + x / 64 % v)]).map wS)]) rfl (by
        unfold g__law_walks_b1
        refine seq_step (δ' := [some (.scr ns), some (.int k), some (.int (n : Int)), o3, some (.loc s.length), some (.loc (s.length + 1)), some (.int j), some (.int x), o8, o9]) (s' := s ++ [.lst (W.map wI), .lst (W.map wS)]) (by simp [e1']) ?_
        refine seq_step (δ' := [some (.scr ns), some (.int k), some (.int (n : Int)), o3, some (.loc s.length), some (.loc (s.length + 1)), some (.int j), some (.int x), some (.int (i : Int)), o9]) (s' := s ++ [.lst (W.map wI), .lst (W.map wS)]) (by simp [w1, w1', ha]) ?_
        refine seq_step (δ' := [some (.scr ns), some (.int k), some (.int (n : Int)), o3, some (.loc s.length), some (.loc (s.length + 1)), some (.int j), some (.int x), some (.int (i : Int)), some (.int (i' : Int))]) (s' := s ++ [.lst (W.map wI), .lst (W.map wS)]) (by simp [w1, w2, w1', w2', hb]) ?_
        simp [lim_eq, i1, i2, get_app, get_app0, set_app, set_app0, hl2, h1, hv.1, wI, wS])]
      exact g2
    · obtain ⟨W', p6, p7, p8, p9, g0, g1, g2⟩ := wk_loop (ns := ns) (o3 := o3) (s := s) hk hn js W (some (.int j)) (some (.int x)) (some (.int (i : Int))) (some (.int (i' : Int))) (fun y hy => hj y (List.mem_cons_of_mem _ hy)) hW (by omega)
      refine ⟨W', p6, p7, p8, p9, g0, g1, ?_⟩
      rw [List.map_cons, forL_next (δ1 := [some (.scr ns), some (.int k), some (.int (n : Int)), o3, some (.loc s.length), some (.loc (s.length + 1)), some (.int j), o7, o8, o9]) (δ2 := [some (.scr ns), some (.int k), some (.int (n : Int)), o3, some (.loc s.length), some (.loc (s.length + 1)), some (.int j), some (.int x), some (.int (i : Int)), some (.int (i' : Int))]) (s2 := s ++ [.lst (W.map wI), .lst (W.map wS)]) rfl (by
        unfold g__law_walks_b1
        refine seq_step (δ' := [some (.scr ns), some (.int k), some (.int (n : Int)), o3, some (.loc s.length), some (.loc (s.length + 1)), some (.int j), some (.int x), o8, o9]) (s' := s ++ [.lst (W.map wI), .lst (W.map wS)]) (by simp [e1']) ?_
        refine seq_step (δ' := [some (.scr ns), some (.int k), some (.int (n : Int)), o3, some (.loc s.length), some (.loc (s.length + 1)), some (.int j), some (.int x), some (.int (i : Int)), o9]) (s' := s ++ [.lst (W.map wI), .lst (W.map wS)]) (by simp [w1, w1', ha]) ?_
        refine seq_step (δ' := [some (.scr ns), some (.int k), some (.int (n : Int)), o3, some (.loc s.length), some (.loc (s.length + 1)), some (.int j), some (.int x), some (.int (i : Int)), some (.int (i' : Int))]) (s' := s ++ [.lst (W.map wI), .lst (W.map wS)]) (by simp [w1, w2, w1', w2', hb]) ?_
        have tt : (tAndD (tst (dOp (oInX true) (dTup (aCons (dVar 8) (aCons (dVar 9) aNil))) (dVar 5))) (tst (dOp (oInX true) (dTup (aCons (dVar 9) (aCons (dVar 8) aNil))) (dVar 5)))) [some (.scr ns), some (.int k), some (.int (n : Int)), o3, some (.loc s.length), some (.loc (s.length + 1)), some (.int j), some (.int x), some (.int (i : Int)), some (.int (i' : Int))] (s ++ [.lst (W.map wI), .lst (W.map wS)]) = .ok false (s ++ [.lst (W.map wI), .lst (W.map wS)]) := by
          by_cases c1 : (i, i') ∈ W.map (fun w => (w.1, w.2.1))
          · rw [decide_eq_true c1] at i1
            simp [lim_eq, i1]
          · have c2 : (i', i) ∈ W.map (fun w => (w.1, w.2.1)) := by
              by_cases c2 : (i', i) ∈ W.map (fun w => (w.1, w.2.1))
              · exact c2
              · exact absurd ⟨c1, c2⟩ c
            rw [decide_eq_false c1] at i1
            rw [decide_eq_true c2] at i2
            simp [lim_eq, i1, i2]
        rw [sIf_eq, tt]
        rfl)]
      exact g2
theorem p_lwalks {ns : List Int} {n : Nat} {M : Int} {s : Sto} (hs : Sb s) (hn : 1 ≤ n ∧ n ≤ 8) (hM : 0 ≤ M ∧ M ≤ 12) : ∃ W : List Wi3, WOk n W ∧ W.length ≤ 12 ∧ f__law_walks [.scr ns, .int 20, .int (n : Int), .int M] s = .ok (.lst (W.map wI)) s := by
  have fin : ∀ (W : List Wi3) (δ : Mp.Env), δ[4]? = some (some (.loc s.length)) → (sFor (itR1 (aCons (dOp oMulA (dVar 3) (dBi bInt (aCons (dOp oGt (dVar 2) (dC (.int 1))) aNil))) aNil)) (tgN 6) g__law_walks_b1) [some (.scr ns), some (.int 20), some (.int (n : Int)), some (.int M), some (.loc s.length), some (.loc (s.length + 1)), none, none, none, none] (s ++ [.lst [], .lst []]) = .nx δ (s ++ [.lst (W.map wI), .lst (W.map wS)]) →
      f__law_walks [.scr ns, .int 20, .int (n : Int), .int M] s = .ok (.lst (W.map wI)) s := by
    intro W δ h4 he
    have l4 : 4 < δ.length := (List.getElem?_eq_some_iff.mp h4).1
    have key : g__law_walks [some (.scr ns), some (.int 20), some (.int (n : Int)), some (.int M), none, none, none, none, none, none] s = .rt (.lst (W.map wI)) (s ++ [.dead, .lst (W.map wS)]) := by
      unfold g__law_walks
      refine seq_step (δ' := [some (.scr ns), some (.int 20), some (.int (n : Int)), some (.int M), some (.loc s.length), none, none, none, none, none]) (s' := s ++ [.lst []]) (by simp [lim_eq]) ?_
      refine seq_step (δ' := [some (.scr ns), some (.int 20), some (.int (n : Int)), some (.int M), some (.loc s.length), some (.loc (s.length + 1)), none, none, none, none]) (s' := s ++ [.lst [], .lst []]) (by simp [lim_eq]) ?_
      refine seq_step he ?_
      refine seq_step (δ' := δ.set 4 (some (.lst (W.map wI)))) (s' := s ++ [.dead, .lst (W.map wS)]) (by
        unfold sFrz
        rw [h4]
        simp [frzD, get_app0, set_app0]) ?_
      simp [l4]
    show finO s.length (g__law_walks [some (.scr ns), some (.int 20), some (.int (n : Int)), some (.int M), none, none, none, none, none, none] s) = _
    rw [key, fin_rt]
    exact cut_back hs (below_wI W)
  by_cases h1 : n = 1
  · subst h1
    refine ⟨[], ⟨(fun w hw => nomatch hw), .nil⟩, by simp, fin [] [some (.scr ns), some (.int 20), some (.int 1), some (.int M), some (.loc s.length), some (.loc (s.length + 1)), none, none, none, none] rfl ?_⟩
    have s0 : small62 0 = true := by decide
    have cm : cMul M 0 = true := cMul_r (by omega)
    simp [cm, s0, intsD]
  · have ei : intsD 0 M.toNat = ((List.range M.toNat).map fun (i : Nat) => (0 + (i : Int))).map D.int := by simp [intsD]
    have hlen : ((List.range M.toNat).map fun (i : Nat) => (0 + (i : Int))).length = M.toNat := by simp
    obtain ⟨W, p6, p7, p8, p9, g0, g1, g2⟩ := wk_loop (ns := ns) (k := 20) (n := n) (o3 := some (.int M)) (s := s) (by omega) (by omega) ((List.range M.toNat).map fun (i : Nat) => (0 + (i : Int))) [] none none none none (by
      intro j hj
      obtain ⟨i, hi, rfl⟩ := List.mem_map.mp hj
      have := List.mem_range.mp hi
      omega) ⟨(fun w hw => nomatch hw), .nil⟩ (by rw [hlen]; simp; omega)
    rw [← ei] at g2
    refine ⟨W, g0, g1, fin W [some (.scr ns), some (.int 20), some (.int (n : Int)), some (.int M), some (.loc s.length), some (.loc (s.length + 1)), p6, p7, p8, p9] rfl ?_⟩
    have sm : small62 M = true := by unfold small62; simp; omega
    have cm : cMul M 1 = true := cMul_r (by omega)
    have n1 : (1 : Int) < n := by omega
    have n1' : 1 < n := by omega
    have rg : (itR1 (aCons (dOp oMulA (dVar 3) (dBi bInt (aCons (dOp oGt (dVar 2) (dC (.int 1))) aNil))) aNil)) [some (.scr ns), some (.int 20), some (.int (n : Int)), some (.int M), some (.loc s.length), some (.loc (s.length + 1)), none, none, none, none] (s ++ [.lst [], .lst []]) = .ok (intsD 0 M.toNat) (s ++ [.lst [], .lst []]) := by
      simp [cm, sm, n1, n1']
    rw [sFor_eq, rg]
    simp only [out_ok]
    exact g2
/-! ### the law's net -/
def stA : Nat → List Nm → Ps
  | _, [] => []
  | k, z :: zs => (z, .tup [.int (1 + (k : Int) % 6), .int (5 * (k : Int) % 31)]) :: stA (k + 1) zs
theorem stA_keys : ∀ {k : Nat} {zs : List Nm}, (stA k zs).map (·.1) = zs
  | _, [] => rfl
  | k, z :: zs => by
    show z :: (stA (k + 1) zs).map (·.1) = _
    rw [stA_keys]
theorem stA_app : ∀ {k : Nat} {zs : List Nm} {z : Nm}, stA k (zs ++ [z]) = stA k zs ++ [(z, .tup [.int (1 + ((k + zs.length : Nat) : Int) % 6), .int (5 * ((k + zs.length : Nat) : Int) % 31)])]
  | k, [], z => rfl
  | k, y :: zs, z => by
    show _ :: stA (k + 1) (zs ++ [z]) = _ :: (stA (k + 1) zs ++ _)
    rw [stA_app (k := k + 1), List.length_cons, show k + 1 + zs.length = k + (zs.length + 1) by omega]
theorem bel_k {n : Nat} : ∀ {P : Ps}, belows n (ky P) = true
  | [] => rfl
  | p :: P => by
    show (below n (.str p.1) && belows n (ky P)) = true
    rw [bel_k]
    rfl
theorem bel_stA {n : Nat} : ∀ {k : Nat} {zs : List Nm}, belows n (vl (stA k zs)) = true
  | _, [] => rfl
  | k, z :: zs => by
    show (below n (.tup [.int _, .int _]) && belows n (vl (stA (k + 1) zs))) = true
    rw [bel_stA]
    rfl
theorem bel_wD {n : Nat} : ∀ W : List Wn3, belows n (W.map wD) = true
  | [] => rfl
  | w :: W => by
    rw [List.map_cons]
    show (below n (wD w) && belows n (W.map wD)) = true
    rw [bel_wD W]
    rfl
def nmw (names : List Nm) (w : Wi3) : Wn3 := (names.getD w.1 [], names.getD w.2.1 [], w.2.2)
structure NsOk (names : List Nm) : Prop where
  nm : ∀ z ∈ names, NmOk z
  nd : names.Nodup
  le : names.length ≤ 8
theorem getD_at {names : List Nm} {i : Nat} (h : i < names.length) : names[i]? = some (names.getD i []) ∧ names.getD i [] ∈ names := by
  have e : names.getD i [] = names[i] := by simp [h]
  rw [e]
  exact ⟨List.getElem?_eq_getElem h, List.getElem_mem h⟩
theorem getD_inj {names : List Nm} (nd : names.Nodup) {i j : Nat} (hi : i < names.length) (hj : j < names.length) (e : names.getD i [] = names.getD j []) : i = j := by
  have h1 := (getD_at hi).1
  have h2 := (getD_at hj).1
  rw [← e] at h2
  exact nd_at nd h1 h2
theorem nb1 {S S' : Sto} {o k : Nat} {z : Nm} {o0 o1 o5 o6 o7 : Option D} {vs : List D} (ho : S[o]? = some (.obj 19 [2, 3, 4, 5, 6] vs)) (h : f_Net_add_stop [.loc o, .str z, .int (1 + (k : Int) % 6), .int (5 * (k : Int) % 31)] S = .ok .non S') (hk : k < 8) :
    g__law_net_b1 [o0, o1, some (.loc o), some (.int (k : Int)), some (.str z), o5, o6, o7] S = .nx [o0, o1, some (.loc o), some (.int (k : Int)), some (.str z), o5, o6, o7] S' := by
  have cm : cMul 5 (k : Int) = true := cMul_l (by omega)
  simp [g__law_net_b1, dMeth_eq, List.lookup, ho, cm, h]
theorem nb2 {S S' : Sto} {o : Nat} {w : Wi3} {names : List Nm} {o1 o3 o4 : Option D} {vs : List D} (ho : S[o]? = some (.obj 19 [2, 3, 4, 5, 6] vs)) {a b : Nm} (i1 : (names.map D.str)[w.1]? = some (.str a)) (i2 : (names.map D.str)[w.2.1]? = some (.str b)) (h : f_Net_add_walk [.loc o, .str a, .str b, .int w.2.2] S = .ok .non S') :
    g__law_net_b2 [some (.lst (names.map D.str)), o1, some (.loc o), o3, o4, some (.int w.1), some (.int w.2.1), some (.int w.2.2)] S = .nx [some (.lst (names.map D.str)), o1, some (.loc o), o3, o4, some (.int w.1), some (.int w.2.1), some (.int w.2.2)] S' := by
  generalize names.map D.str = L at i1 i2
  simp [g__law_net_b2, dMeth_eq, List.lookup, ho, i1, i2, h]
theorem ns_loop {o0 o1 o5 o6 o7 : Option D} {s : Sto} : ∀ (zs pre : List Nm) (o3 o4 : Option D), (pre ++ zs).Nodup → (∀ z ∈ zs, NmOk z) → (pre ++ zs).length ≤ 8 →
    ∃ p3 p4, forL (tgT [tgN 3, tgN 4]) g__law_net_b1 (enD pre.length (zs.map D.str)) [o0, o1, some (.loc s.length), o3, o4, o5, o6, o7] (s ++ NetL s.length (stA 0 pre) []) = .nx [o0, o1, some (.loc s.length), p3, p4, o5, o6, o7] (s ++ NetL s.length (stA 0 (pre ++ zs)) [])
  | [], pre, o3, o4, _, _, _ => ⟨o3, o4, by simp [enD]⟩
  | z :: zs, pre, o3, o4, nd, hz, hl => by
    have e1 : pre ++ z :: zs = (pre ++ [z]) ++ zs := by simp
    have hlp : pre.length < 8 := by rw [List.length_append, List.length_cons] at hl; omega
    have hn : z ∉ (stA 0 pre).map (·.1) := by
      rw [stA_keys]
      intro q
      exact (List.nodup_append.mp nd).2.2 _ q _ List.mem_cons_self rfl
    have hA : (stA 0 pre).length < 8 := by
      have := congrArg List.length (stA_keys (k := 0) (zs := pre))
      rw [List.length_map] at this
      omega
    have k1 := p_addstop (v := 1 + (pre.length : Int) % 6) (c := 5 * (pre.length : Int) % 31) (nt_app0 (s := s) (A := stA 0 pre) (W := [])) (hz z List.mem_cons_self) hn hA (by omega) (by omega)
    have k2 : stA 0 pre ++ [(z, .tup [.int (1 + (pre.length : Int) % 6), .int (5 * (pre.length : Int) % 31)])] = stA 0 (pre ++ [z]) := by rw [stA_app, Nat.zero_add]
    rw [k2, set_app] at k1
    rw [e1] at nd hl ⊢
    obtain ⟨p3, p4, e⟩ := ns_loop (o0 := o0) (o1 := o1) (o5 := o5) (o6 := o6) (o7 := o7) (s := s) zs (pre ++ [z]) (some (.int (pre.length : Int))) (some (.str z)) nd (fun y hy => hz y (List.mem_cons_of_mem _ hy)) hl
    have el : (pre ++ [z]).length = pre.length + 1 := by simp
    rw [el] at e
    refine ⟨p3, p4, ?_⟩
    rw [List.map_cons]
    show forL _ _ (.tup [.int (pre.length : Int), .str z] :: enD (pre.length + 1) (zs.map D.str)) _ _ = _
    rw [forL_next (δ1 := [o0, o1, some (.loc s.length), some (.int (pre.length : Int)), some (.str z), o5, o6, o7]) (δ2 := [o0, o1, some (.loc s.length), some (.int (pre.length : Int)), some (.str z), o5, o6, o7]) (s2 := s ++ NetL s.length (stA 0 (pre ++ [z])) []) rfl (by
      exact nb1 (nt_app0 (s := s) (A := stA 0 pre) (W := [])).o k1 hlp)]
    exact e
theorem nw_loop {names : List Nm} (hN : NsOk names) {A : Ps} (hA : A.map (·.1) = names) {o1 o3 o4 : Option D} {s : Sto} : ∀ (W pre : List Wi3) (o5 o6 o7 : Option D), WOk names.length (pre ++ W) → (pre ++ W).length ≤ 12 →
    ∃ p5 p6 p7, forL (tgT [tgN 5, tgN 6, tgN 7]) g__law_net_b2 (W.map wI) [some (.lst (names.map D.str)), o1, some (.loc s.length), o3, o4, o5, o6, o7] (s ++ NetL s.length A (pre.map (nmw names))) = .nx [some (.lst (names.map D.str)), o1, some (.loc s.length), o3, o4, p5, p6, p7] (s ++ NetL s.length A ((pre ++ W).map (nmw names)))
  | [], pre, o5, o6, o7, _, _ => ⟨o5, o6, o7, by simp⟩
  | w :: W, pre, o5, o6, o7, hW, hl => by
    have e1 : pre ++ w :: W = (pre ++ [w]) ++ W := by simp
    obtain ⟨r1, r2, r3, r4, r5⟩ := hW.rg w (by simp)
    obtain ⟨a1, a2⟩ := getD_at r1
    obtain ⟨b1, b2⟩ := getD_at r2
    have pw := (List.pairwise_append.mp hW.pw).2.2
    have k1 := p_addwalk (a := names.getD w.1 []) (b := names.getD w.2.1 []) (m := w.2.2) (nt_app0 (s := s) (A := A) (W := pre.map (nmw names))) ⟨hN.nm _ a2, by rw [hA]; exact a2⟩ ⟨hN.nm _ b2, by rw [hA]; exact b2⟩ (fun e => r3 (getD_inj hN.nd r1 r2 e)) (fun u hu => by
      obtain ⟨v, hv, rfl⟩ := List.mem_map.mp hu
      obtain ⟨v1, v2, v3, v4, v5⟩ := hW.rg v (List.mem_append_left _ hv)
      have h := pw v hv w List.mem_cons_self
      refine ⟨hN.nm _ (getD_at v1).2, hN.nm _ (getD_at v2).2, fun e => h.1 ?_, fun e => h.2 ?_⟩
      · have e1 : names.getD v.1 [] = names.getD w.1 [] := congrArg (·.1) e
        have e2 : names.getD v.2.1 [] = names.getD w.2.1 [] := congrArg (·.2) e
        rw [getD_inj hN.nd v1 r1 e1, getD_inj hN.nd v2 r2 e2]
      · have e1 : names.getD v.1 [] = names.getD w.2.1 [] := congrArg (·.1) e
        have e2 : names.getD v.2.1 [] = names.getD w.1 [] := congrArg (·.2) e
        rw [getD_inj hN.nd v1 r2 e1, getD_inj hN.nd v2 r1 e2]) ⟨r4, r5⟩ (by rw [List.length_append, List.length_cons] at hl; rw [List.length_map]; omega)
    rw [set_app] at k1
    have k2 : pre.map (nmw names) ++ [(names.getD w.1 [], names.getD w.2.1 [], w.2.2)] = (pre ++ [w]).map (nmw names) := by simp [nmw]
    rw [k2] at k1
    rw [e1] at hW hl ⊢
    obtain ⟨p5, p6, p7, e⟩ := nw_loop hN hA (o1 := o1) (o3 := o3) (o4 := o4) (s := s) W (pre ++ [w]) (some (.int w.1)) (some (.int w.2.1)) (some (.int w.2.2)) hW hl
    refine ⟨p5, p6, p7, ?_⟩
    have i1 : (names.map D.str)[w.1]? = some (.str (names.getD w.1 [])) := by rw [List.getElem?_map, a1]; rfl
    have i2 : (names.map D.str)[w.2.1]? = some (.str (names.getD w.2.1 [])) := by rw [List.getElem?_map, b1]; rfl
    rw [List.map_cons, forL_next (δ1 := [some (.lst (names.map D.str)), o1, some (.loc s.length), o3, o4, some (.int w.1), some (.int w.2.1), some (.int w.2.2)]) (δ2 := [some (.lst (names.map D.str)), o1, some (.loc s.length), o3, o4, some (.int w.1), some (.int w.2.1), some (.int w.2.2)]) (s2 := s ++ NetL s.length A ((pre ++ [w]).map (nmw names))) rfl (by
      exact nb2 (nt_app0 (s := s) (A := A) (W := pre.map (nmw names))).o i1 i2 k1)]
    exact e
theorem cut_loc {n : Nat} {s : Sto} : cut n (.loc n) s = .ok (.loc n) s := by
  unfold Mp.cut
  split
  · rfl
  · rw [if_neg (by simp [below])]
theorem p_lnet {names : List Nm} (hN : NsOk names) {W : List Wi3} (hW : WOk names.length W) (hl : W.length ≤ 12) {s : Sto} : f__law_net [.lst (names.map D.str), .lst (W.map wI)] s = .ok (.loc s.length) (s ++ NetL s.length (stA 0 names) (W.map (nmw names))) := by
  obtain ⟨p3, p4, e1⟩ := ns_loop (o0 := some (.lst (names.map D.str))) (o1 := some (.lst (W.map wI))) (o5 := none) (o6 := none) (o7 := none) (s := s) names [] none none (by simpa using hN.nd) hN.nm (by simpa using hN.le)
  obtain ⟨p5, p6, p7, e2⟩ := nw_loop hN (A := stA 0 names) stA_keys (o1 := some (.lst (W.map wI))) (o3 := p3) (o4 := p4) (s := s) W [] none none none (by simpa using hW) (by simpa using hl)
  have key : g__law_net [some (.lst (names.map D.str)), some (.lst (W.map wI)), none, none, none, none, none, none] s = .rt (.loc s.length) (s ++ NetL s.length (stA 0 names) (W.map (nmw names))) := by
    unfold g__law_net
    refine seq_step (δ' := [some (.lst (names.map D.str)), some (.lst (W.map wI)), some (.loc s.length), none, none, none, none, none]) (s' := s ++ NetL s.length [] []) (by simp [p_netinit]) ?_
    refine seq_step (δ' := [some (.lst (names.map D.str)), some (.lst (W.map wI)), some (.loc s.length), p3, p4, none, none, none]) (s' := s ++ NetL s.length (stA 0 names) []) (by
      simp only [sFor_eq, itEnum_eq, aCons_eq, aNil_eq, dVar_eq, List.getElem?_cons_succ, List.getElem?_cons_zero, bind_ok, out_ok]
      exact e1) ?_
    refine seq_step (δ' := [some (.lst (names.map D.str)), some (.lst (W.map wI)), some (.loc s.length), p3, p4, p5, p6, p7]) (s' := s ++ NetL s.length (stA 0 names) (W.map (nmw names))) (by
      simp only [sFor_eq, itAny_eq, dVar_eq, List.getElem?_cons_succ, List.getElem?_cons_zero, bind_ok, out_ok]
      exact e2) ?_
    simp
  show finO s.length (g__law_net [some (.lst (names.map D.str)), some (.lst (W.map wI)), none, none, none, none, none, none] s) = _
  rw [key, fin_rt]
  exact cut_loc
end Rb
namespace Rb
open PySem PySem.Spec L2 Mp
/-! ### the feet -/
def npP : Nat → List Nm → Ps
  | _, [] => []
  | k, z :: zs => (z, .loc k) :: npP (k + 1) zs
theorem npP_keys : ∀ {k : Nat} {zs : List Nm}, (npP k zs).map (·.1) = zs
  | _, [] => rfl
  | k, z :: zs => by
    show z :: (npP (k + 1) zs).map (·.1) = _
    rw [npP_keys]
theorem npP_at {z : Nm} : ∀ {k i : Nat} {zs : List Nm}, zs[i]? = some z → (z, D.loc (k + i)) ∈ npP k zs
  | k, i, [], h => by cases h
  | k, 0, y :: zs, h => by
    cases h
    exact List.mem_cons_self
  | k, i + 1, y :: zs, h => by
    have := npP_at (k := k + 1) (i := i) (zs := zs) h
    rw [show k + 1 + i = k + (i + 1) by omega] at this
    exact List.mem_cons_of_mem _ this
theorem bel_npP {n : Nat} : ∀ {k : Nat} {zs : List Nm}, k + zs.length ≤ n → belows n (vl (npP k zs)) = true
  | _, [], _ => rfl
  | k, z :: zs, h => by
    rw [List.length_cons] at h
    show (below n (.loc k) && belows n (vl (npP (k + 1) zs))) = true
    rw [bel_npP (by omega)]
    simp [below]
    omega
def eD (e : Nm × Int) : D := .tup [.str e.1, .int e.2]
theorem bel_eD {n : Nat} : ∀ L : List (Nm × Int), belows n (L.map eD) = true
  | [] => rfl
  | w :: W => by
    rw [List.map_cons]
    show (below n (eD w) && belows n (W.map eD)) = true
    rw [bel_eD W]
    rfl
def nr (W : List Wn3) (u : Nm) : List (Nm × Int) := W.flatMap fun w => (if w.1 = u then [(w.2.1, w.2.2)] else []) ++ (if w.2.1 = u then [(w.1, w.2.2)] else [])
theorem nr_app {W : List Wn3} {w : Wn3} {u : Nm} : nr (W ++ [w]) u = nr W u ++ ((if w.1 = u then [(w.2.1, w.2.2)] else []) ++ (if w.2.1 = u then [(w.1, w.2.2)] else [])) := by
  unfold nr
  rw [List.flatMap_append]
  simp
theorem nr_len {u : Nm} : ∀ {W : List Wn3}, (nr W u).length ≤ 2 * W.length
  | [] => by simp [nr]
  | w :: W => by
    have ih := nr_len (u := u) (W := W)
    unfold nr at ih ⊢
    rw [List.flatMap_cons, List.length_append, List.length_append, List.length_cons]
    have h1 : (if w.1 = u then [(w.2.1, w.2.2)] else []).length ≤ 1 := by split <;> simp
    have h2 : (if w.2.1 = u then [(w.1, w.2.2)] else []).length ≤ 1 := by split <;> simp
    omega
structure Ft (F : Nat) (names : List Nm) (g : Nm → List (Nm × Int)) (Kn : Ps) (s : Sto) : Prop where
  o : s[F]? = some (.obj 18 [0, 1] [.loc (F + 1 + names.length), .loc (F + 2 + names.length)])
  d : s[F + 1 + names.length]? = some (.dct (ky (npP (F + 1) names)) (vl (npP (F + 1) names)))
  l : ∀ i z, names[i]? = some z → s[F + 1 + i]? = some (.lst ((g z).map eD))
  k : s[F + 2 + names.length]? = some (.dct (ky Kn) (vl Kn))
theorem Ft.near {F : Nat} {names : List Nm} (nd : names.Nodup) {g : Nm → List (Nm × Int)} {Kn : Ps} {s : Sto} (h : Ft F names g Kn s) {i : Nat} {z : Nm} (hi : names[i]? = some z) : lkD (.str z) (ky (npP (F + 1) names)) (vl (npP (F + 1) names)) = some (.loc (F + 1 + i)) :=
  lk_yes (P := npP (F + 1) names) (t := (z, .loc (F + 1 + i))) (by rw [npP_keys]; exact nd) (npP_at hi)
theorem Ft.add {F : Nat} {names : List Nm} (nd : names.Nodup) {g g' : Nm → List (Nm × Int)} {Kn : Ps} {s : Sto} (h : Ft F names g Kn s) {i : Nat} {z : Nm} (hi : names[i]? = some z) (h1 : ∀ y, y ≠ z → g' y = g y) : Ft F names g' Kn (s.set (F + 1 + i) (.lst ((g' z).map eD))) := by
  have hl := (List.getElem?_eq_some_iff.mp hi).1
  refine ⟨?_, ?_, fun j y hj => ?_, ?_⟩
  · rw [List.getElem?_set_ne (by omega)]; exact h.o
  · rw [List.getElem?_set_ne (by omega)]; exact h.d
  · have hlj := (List.getElem?_eq_some_iff.mp hj).1
    by_cases e : i = j
    · subst e
      rw [hi] at hj
      cases hj
      rw [List.getElem?_set_self]
      exact (List.getElem?_eq_some_iff.mp (h.l i z hi)).1
    · rw [List.getElem?_set_ne (by omega), h1 y (fun q => e (by subst q; exact nd_at nd hi hj))]
      exact h.l j y hj
  · rw [List.getElem?_set_ne (by omega)]; exact h.k
/-- one step of Feet's __init__ -/
theorem fi_b1 {F : Nat} {names : List Nm} (nd : names.Nodup) {W : List Wn3} {w : Wn3} {Kn : Ps} {s : Sto} (h : Ft F names (nr W) Kn s) {i j : Nat} (hi : names[i]? = some w.1) (hj : names[j]? = some w.2.1) (ne : w.1 ≠ w.2.1) (hl : W.length ≤ 1000) {o1 o5 : Option D} :
    ∃ s', Ft F names (nr (W ++ [w])) Kn s' ∧ s'.length = s.length ∧ (∀ q, q < F → s'[q]? = s[q]?) ∧ (Sb s → Sb s') ∧
      g_Feet___init___b1 [some (.loc F), o1, some (.str w.1), some (.str w.2.1), some (.int w.2.2), o5] s = .nx [some (.loc F), o1, some (.str w.1), some (.str w.2.1), some (.int w.2.2), o5] s' := by
  obtain ⟨a, b, m⟩ := w
  simp only at hi hj ne ⊢
  let g1 : Nm → List (Nm × Int) := fun u => nr W u ++ (if a = u then [(b, m)] else [])
  have f1 := h.add nd hi (g' := g1) (fun y hy => by simp [g1, Ne.symm hy])
  have f2 := f1.add nd hj (g' := nr (W ++ [(a, b, m)])) (fun y hy => by rw [nr_app]; simp [g1, Ne.symm hy])
  have hla := nr_len (u := a) (W := W)
  have hlb := nr_len (u := b) (W := W)
  have l1 : ((nr W a).map eD).length < 1000000 := by rw [List.length_map]; omega
  have gb : g1 b = nr W b := by simp [g1, ne]
  have ga : g1 a = nr W a ++ [(b, m)] := by simp [g1]
  have gb2 : nr (W ++ [(a, b, m)]) b = nr W b ++ [(a, m)] := by rw [nr_app]; simp [ne]
  have l2 : ((g1 b).map eD).length < 1000000 := by rw [gb, List.length_map]; omega
  have c1 := h.l i a hi
  have c2 := f1.l j b hj
  have n1 := h.near nd hi
  have n2 := f1.near nd hj
  refine ⟨_, f2, by rw [List.length_set, List.length_set], fun q hq => ?_, fun hs => ?_, ?_⟩
  · rw [List.getElem?_set_ne (by omega), List.getElem?_set_ne (by omega)]
  · refine sb_set (sb_set hs ?_) ?_
    · exact bel_eD _
    · exact bel_eD _
  · unfold g_Feet___init___b1
    have s1 : mAppend (.loc (F + 1 + i)) [.tup [.str b, .int m]] s = .ok .non (s.set (F + 1 + i) (.lst ((g1 a).map eD))) := by
      rw [mAppend_eq, c1]
      dsimp only
      rw [if_pos (by rw [lim_eq]; exact l1), ga, List.map_append]
      rfl
    generalize hS : s.set (F + 1 + i) (.lst ((g1 a).map eD)) = S at s1 f1 c2 n2 f2
    have s2 : mAppend (.loc (F + 1 + j)) [.tup [.str a, .int m]] S = .ok .non (S.set (F + 1 + j) (.lst ((nr (W ++ [(a, b, m)]) b).map eD))) := by
      rw [mAppend_eq, c2]
      dsimp only
      rw [if_pos (by rw [lim_eq]; exact l2), gb2, gb, List.map_append]
      rfl
    refine seq_step (δ' := [some (.loc F), o1, some (.str a), some (.str b), some (.int m), o5]) (s' := S) ?_ ?_
    · have q := s1
      simp [h.o, h.d, oDix, n1, c1, lim_eq, -mAppend_eq]
      rw [q]
      rfl
    · simp [f1.o, f1.d, oDix, n2, c2, lim_eq, -mAppend_eq]
      rw [s2]
      rfl
theorem fi_loop {F : Nat} {names : List Nm} (nd : names.Nodup) {o1 o5 : Option D} {Kn : Ps} : ∀ (W pre : List Wn3) (s : Sto) (o2 o3 o4 : Option D), Ft F names (nr pre) Kn s → (∀ w ∈ W, w.1 ∈ names ∧ w.2.1 ∈ names ∧ w.1 ≠ w.2.1) → (pre ++ W).length ≤ 1000 →
    ∃ s' p2 p3 p4, Ft F names (nr (pre ++ W)) Kn s' ∧ s'.length = s.length ∧ (∀ q, q < F → s'[q]? = s[q]?) ∧ (Sb s → Sb s') ∧
      forL (tgT [tgN 2, tgN 3, tgN 4]) g_Feet___init___b1 (W.map wD) [some (.loc F), o1, o2, o3, o4, o5] s = .nx [some (.loc F), o1, p2, p3, p4, o5] s'
  | [], pre, s, o2, o3, o4, h, _, _ => ⟨s, o2, o3, o4, by simpa using h, rfl, fun _ _ => rfl, id, rfl⟩
  | w :: W, pre, s, o2, o3, o4, h, hw, hl => by
    have e1 : pre ++ w :: W = (pre ++ [w]) ++ W := by simp
    obtain ⟨h1, h2, h3⟩ := hw w List.mem_cons_self
    obtain ⟨i, hi⟩ := List.getElem?_of_mem h1
    obtain ⟨j, hj⟩ := List.getElem?_of_mem h2
    obtain ⟨s1, f1, l1, q1, b1, r1⟩ := fi_b1 nd h hi hj h3 (by rw [List.length_append] at hl; omega) (o1 := o1) (o5 := o5)
    rw [e1] at hl ⊢
    obtain ⟨s2, p2, p3, p4, f2, l2, q2, b2, r2⟩ := fi_loop nd (o1 := o1) (o5 := o5) W (pre ++ [w]) s1 (some (.str w.1)) (some (.str w.2.1)) (some (.int w.2.2)) f1 (fun y hy => hw y (List.mem_cons_of_mem _ hy)) hl
    refine ⟨s2, p2, p3, p4, f2, by rw [l2, l1], fun q hq => by rw [q2 q hq, q1 q hq], fun hs => b2 (b1 hs), ?_⟩
    rw [List.map_cons, forL_next (δ1 := [some (.loc F), o1, some (.str w.1), some (.str w.2.1), some (.int w.2.2), o5]) rfl r1]
    exact r2
def pt (p : Nm × D) : D := .tup [.str p.1, p.2]
theorem fi_lc {δ : Mp.Env} (h5 : 5 < δ.length) : ∀ (zs : List Nm) (acc : List D) (S : Sto), acc.length + zs.length ≤ 1000 →
    lcL (tgN 5) cYes (dTup (aCons (dVar 5) (aCons (dLstC aNil) aNil))) δ (zs.map D.str) acc S = .ok (.lst (acc ++ (npP S.length zs).map pt)) (S ++ List.replicate zs.length (.lst []))
  | [], acc, S, _ => by simp [npP]
  | z :: zs, acc, S, hl => by
    rw [List.length_cons] at hl
    have ih := fi_lc (δ := δ) h5 zs (acc ++ [.tup [.str z, .loc S.length]]) (S ++ [.lst []]) (by simp; omega)
    have el : dTup (aCons (dVar 5) (aCons (dLstC aNil) aNil)) (δ.set 5 (some (.str z))) S = .ok (.tup [.str z, .loc S.length]) (S ++ [.lst []]) := by simp [h5, lim_eq]
    have hl2 : acc.length < lim := by rw [lim_eq]; omega
    rw [List.map_cons, lcL_cons, tgN_eq]
    dsimp only [cYes_eq]
    rw [el]
    dsimp only
    rw [if_pos hl2]
    have e : S ++ [Cell.lst []] ++ List.replicate zs.length (Cell.lst []) = S ++ List.replicate (zs.length + 1) (Cell.lst []) := by
      rw [List.append_assoc, List.replicate_succ]
      rfl
    rw [List.length_append, List.length_singleton] at ih
    rw [ih, e]
    simp [npP, pt]
theorem dctF_pt : ∀ (Q P : Ps), ((P ++ Q).map (·.1)).Nodup → dctF (Q.map pt) (ky P) (vl P) = some (ky (P ++ Q), vl (P ++ Q))
  | [], P, _ => by simp [dctF]
  | q :: Q, P, nd => by
    have e1 : P ++ q :: Q = (P ++ [q]) ++ Q := by simp
    have hn : q.1 ∉ P.map (·.1) := by
      rw [List.map_append, List.map_cons] at nd
      intro h
      exact (List.nodup_append.mp nd).2.2 _ h _ List.mem_cons_self rfl
    obtain ⟨s1, s2⟩ := set_new (d := q.2) hn
    rw [e1] at nd ⊢
    have ih := dctF_pt Q (P ++ [q]) nd
    show (match keyD (.str q.1) with
      | some _ => dctF (Q.map pt) (setK (.str q.1) (ky P)) (setD (.str q.1) q.2 (ky P) (vl P))
      | none => none) = _
    rw [s1, s2]
    exact ih
theorem p_feet {o : Nat} {A : Ps} {W : List Wn3} {names : List Nm} {s : Sto} (h : Nt o A W s) (hs : Sb s) (hN : NsOk names) (hA : A.map (·.1) = names) (hw : ∀ w ∈ W, w.1 ∈ names ∧ w.2.1 ∈ names ∧ w.1 ≠ w.2.1) (hl : W.length ≤ 12) :
    ∃ s', Ft s.length names (nr W) [] s' ∧ s'.length = s.length + 3 + names.length ∧ (∀ q, q < s.length → s'[q]? = s[q]?) ∧ Sb s' ∧ mkO 18 f_Feet___init__ [.loc o] s = .ok (.loc s.length) s' := by
  have lo : o + 2 < s.length := (List.getElem?_eq_some_iff.mp h.w).1
  have nt_ext : ∀ {r : Sto}, Nt o A W (s ++ r) := ⟨by rw [List.getElem?_append_left (by omega)]; exact h.o, by rw [List.getElem?_append_left (by omega)]; exact h.a, by rw [List.getElem?_append_left (by omega)]; exact h.w⟩
  have eA : ky A = names.map D.str := by rw [← hA, List.map_map]; rfl
  have n8 := hN.le
  let R1 : Sto := [.obj 18 [0] [.loc (s.length + 1 + names.length)]] ++ List.replicate names.length (.lst []) ++ [.dct (ky (npP (s.length + 1) names)) (vl (npP (s.length + 1) names))]
  let R2 : Sto := [.obj 18 [0, 1] [.loc (s.length + 1 + names.length), .loc (s.length + 2 + names.length)]] ++ List.replicate names.length (.lst []) ++ [.dct (ky (npP (s.length + 1) names)) (vl (npP (s.length + 1) names)), .dct [] []]
  have r2l : R2.length = names.length + 3 := by simp [R2]
  have ft2 : Ft s.length names (nr []) [] (s ++ R2) := by
    refine ⟨by rw [get_app0]; rfl, ?_, fun i z hi => ?_, ?_⟩
    · rw [show s.length + 1 + names.length = s.length + (1 + names.length) by omega, get_app]
      have : 1 + names.length = ([Cell.obj 18 [0, 1] [.loc (s.length + 1 + names.length), .loc (s.length + 2 + names.length)]] ++ List.replicate names.length (Cell.lst [])).length := by simp; omega
      rw [this]
      exact get_app0
    · have hi' := (List.getElem?_eq_some_iff.mp hi).1
      rw [show s.length + 1 + i = s.length + (1 + i) by omega, get_app]
      show ((Cell.obj 18 [0, 1] _ :: List.replicate names.length (Cell.lst [])) ++ _)[1 + i]? = _
      rw [List.getElem?_append_left (by simp; omega), show 1 + i = i + 1 by omega, List.getElem?_cons_succ, List.getElem?_replicate, if_pos hi']
      rfl
    · rw [show s.length + 2 + names.length = s.length + (1 + names.length + 1) by omega, get_app]
      have : 1 + names.length = ([Cell.obj 18 [0, 1] [.loc (s.length + 1 + names.length), .loc (s.length + 2 + names.length)]] ++ List.replicate names.length (Cell.lst [])).length := by simp; omega
      rw [this]
      exact get_app
  have sb2 : Sb (s ++ R2) := by
    unfold Sb
    rw [List.all_append, Bool.and_eq_true]
    have le : ∀ {c : Cell} {n m : Nat}, n ≤ m → Cell.below n c = true → Cell.below m c = true := by
      have bd : ∀ (n m : Nat), n ≤ m → (∀ d, below n d = true → below m d = true) ∧ (∀ ds, belows n ds = true → belows m ds = true) := by
        intro n m hnm
        have : ∀ k, (∀ d, sizeOf d < k → below n d = true → below m d = true) ∧ (∀ ds : List D, sizeOf ds < k → belows n ds = true → belows m ds = true) := by
          intro k
          induction k with
          | zero => exact ⟨fun d hd => absurd hd (by omega), fun d hd => absurd hd (by omega)⟩
          | succ k ih =>
            constructor
            · intro d hd hb
              cases d with
              | loc j => simp [below] at hb ⊢; omega
              | tup xs => exact ih.2 xs (by simp at hd; omega) hb
              | lst xs => exact ih.2 xs (by simp at hd; omega) hb
              | dct ks xs => exact ih.2 xs (by simp at hd; omega) hb
              | obj c ns xs => exact ih.2 xs (by simp at hd; omega) hb
              | _ => rfl
            · intro ds hd hb
              cases ds with
              | nil => rfl
              | cons d ds =>
                have hb' : (below n d && belows n ds) = true := hb
                rw [Bool.and_eq_true] at hb'
                show (below m d && belows m ds) = true
                rw [ih.1 d (by simp at hd; omega) hb'.1, ih.2 ds (by simp at hd; omega) hb'.2]
                rfl
        exact ⟨fun d => (this (sizeOf d + 1)).1 d (by omega), fun ds => (this (sizeOf ds + 1)).2 ds (by omega)⟩
      intro c n m hnm hb
      cases c with
      | dead => rfl
      | lst xs => exact (bd n m hnm).2 xs hb
      | dct ks xs => exact (bd n m hnm).2 xs hb
      | obj c ns xs => exact (bd n m hnm).2 xs hb
    constructor
    · rw [List.all_eq_true]
      intro c hc
      exact le (by rw [List.length_append]; omega) (List.all_eq_true.mp hs c hc)
    · rw [List.length_append, r2l]
      have b1 := bel_npP (n := s.length + (names.length + 3)) (k := s.length + 1) (zs := names) (by omega)
      simp only [R2, List.all_append, List.all_cons, List.all_nil, Bool.and_true]
      rw [Bool.and_eq_true, Bool.and_eq_true]
      refine ⟨⟨?_, ?_⟩, ?_⟩
      · simp [Cell.below, below, belows]; omega
      · rw [List.all_replicate]
        split
        · rfl
        · rfl
      · simp only [Cell.below]
        rw [b1]
        rfl
  obtain ⟨s3, p2, p3, p4, f3, l3, q3, b3, e3⟩ := fi_loop hN.nd (F := s.length) (names := names) (o1 := some (.loc o)) (o5 := none) (Kn := []) W [] (s ++ R2) none none none ft2 hw (by simp; omega)
  have key : g_Feet___init__ [some (.loc s.length), some (.loc o), none, none, none, none] (s ++ [.obj 18 [] []]) = .nx [some (.loc s.length), some (.loc o), p2, p3, p4, none] s3 := by
    have st := p_stops (nt_ext (r := [.obj 18 [] []]))
    have wk := p_walks (nt_ext (r := R2))
    have ho := (nt_ext (r := [.obj 18 [] []])).o
    have ho2 := (nt_ext (r := R2)).o
    unfold g_Feet___init__
    refine seq_step (δ' := [some (.loc s.length), some (.loc o), none, none, none, none]) (s' := s ++ R1) ?_ ?_
    · have lc := fi_lc (δ := [some (.loc s.length), some (.loc o), none, none, none, none]) (by simp) names [] (s ++ [.obj 18 [] []]) (by simp; omega)
      rw [List.nil_append, List.length_append, List.length_singleton] at lc
      have dc := dctF_pt (npP (s.length + 1) names) [] (by rw [List.nil_append, npP_keys]; exact hN.nd)
      rw [List.nil_append] at dc
      have it : itAny (dMeth 7 [(19, f_Net_stops)] (dVar 1) aNil) [some (.loc s.length), some (.loc o), none, none, none, none] (s ++ [.obj 18 [] []]) = .ok (names.map D.str) (s ++ [.obj 18 [] []]) := by
        generalize s ++ [Cell.obj 18 [] []] = S at st ho
        simp [dMeth_eq, List.lookup, ho, st, eA]
      have ev : (dBi bDictP (aCons (dLc (itAny (dMeth 7 [(19, f_Net_stops)] (dVar 1) aNil)) (tgN 5) cYes (dTup (aCons (dVar 5) (aCons (dLstC aNil) aNil))) [5]) aNil)) [some (.loc s.length), some (.loc o), none, none, none, none] (s ++ [.obj 18 [] []]) = .ok (.loc (s.length + 1 + names.length)) (s ++ ([.obj 18 [] []] ++ List.replicate names.length (.lst []) ++ [.dct (ky (npP (s.length + 1) names)) (vl (npP (s.length + 1) names))])) := by
        rw [dBi_eq, aCons_eq, dLc_eq, it, bind_ok]
        simp only [wipeE_cons, wipeE_nil, List.set]
        rw [lc, bind_ok]
        simp only [aNil_eq, bind_ok]
        unfold bDictP
        simp only [lqOf_lst, Option.bind_some]
        have dc' : dctF ((npP (s.length + 1) names).map pt) [] [] = some (ky (npP (s.length + 1) names), vl (npP (s.length + 1) names)) := dc
        rw [dc']
        simp only [List.append_assoc, List.length_append, List.length_singleton, List.length_replicate]
        rw [show s.length + (1 + names.length) = s.length + 1 + names.length by omega]
      rw [sFldS_eq, ev]
      simp only [out_ok, dVar_eq, List.getElem?_cons_zero]
      have g0 : (s ++ ([Cell.obj 18 [] []] ++ List.replicate names.length (.lst []) ++ [.dct (ky (npP (s.length + 1) names)) (vl (npP (s.length + 1) names))]))[s.length]? = some (.obj 18 [] []) := get_app0
      rw [g0]
      simp [set_app0, R1]
    · refine seq_step (δ' := [some (.loc s.length), some (.loc o), none, none, none, none]) (s' := s ++ R2) ?_ ?_
      · have g0 : (s ++ (R1 ++ [Cell.dct [] []]))[s.length]? = some (.obj 18 [0] [.loc (s.length + 1 + names.length)]) := get_app0
        have g1 : (s ++ R1).length = s.length + 2 + names.length := by simp [R1]; omega
        have e2 : (s ++ (R1 ++ [Cell.dct [] []])).set s.length (.obj 18 [0, 1] [.loc (s.length + 1 + names.length), .loc (s.length + 2 + names.length)]) = s ++ R2 := by
          rw [set_app0]
          simp [R1, R2]
        rw [sFldS_eq, dDctC_eq]
        simp only [out_ok, dVar_eq, List.getElem?_cons_zero, List.append_assoc, g0, g1]
        simp [e2]
      · have it : itAny (dMeth 7 [(19, f_Net_walks)] (dVar 1) aNil) [some (.loc s.length), some (.loc o), none, none, none, none] (s ++ R2) = .ok (W.map wD) (s ++ R2) := by
          generalize s ++ R2 = S at wk ho2
          simp [dMeth_eq, List.lookup, ho2, wk]
        rw [sFor_eq, it]
        simp only [out_ok]
        exact e3
  refine ⟨s3, f3, by rw [l3, List.length_append, r2l]; omega, fun q hq => by rw [q3 q hq, List.getElem?_append_left hq], b3 sb2, ?_⟩
  have e : f_Feet___init__ [.loc s.length, .loc o] (s ++ [.obj 18 [] []]) = .ok .non s3 := by
    show finO (s ++ [Cell.obj 18 [] []]).length (g_Feet___init__ [some (.loc s.length), some (.loc o), none, none, none, none] (s ++ [.obj 18 [] []])) = _
    rw [key, fin_nx, List.length_append, List.length_singleton]
    refine cut_keep ?_
    rw [List.all_eq_false]
    have ho := f3.o
    have ht : (s3.take (s.length + 1))[s.length]? = some (.obj 18 [0, 1] [.loc (s.length + 1 + names.length), .loc (s.length + 2 + names.length)]) := by
      rw [List.getElem?_take_of_lt (by omega)]
      exact ho
    exact ⟨_, List.mem_of_getElem? ht, by simp [Cell.below, below, belows]; omega⟩
  unfold mkO
  rw [e]
end Rb
namespace Rb
open PySem PySem.Spec L2 Mp
theorem nd_len {α : Type} [DecidableEq α] : ∀ {l m : List α}, l.Nodup → (∀ x ∈ l, x ∈ m) → l.length ≤ m.length
  | [], m, _, _ => Nat.zero_le _
  | x :: l, m, nd, h => by
    obtain ⟨n1, n2⟩ := List.nodup_cons.mp nd
    have hx := h x List.mem_cons_self
    have ih := nd_len (l := l) (m := m.erase x) n2 fun y hy => (List.mem_erase_of_ne (show y ≠ x from fun e => n1 (by rw [← e]; exact hy))).mpr (h y (List.mem_cons_of_mem _ hy))
    rw [List.length_erase_of_mem hx] at ih
    have := List.length_pos_of_mem hx
    rw [List.length_cons]
    omega
/-! ### the graph of the walks -/
def EW (W : List Wn3) : Ed := fun a b m => (a, b, m) ∈ W ∨ (b, a, m) ∈ W
theorem EW.symm {W : List Wn3} : ∀ a b m, EW W a b m → EW W b a m := fun _ _ _ h => Or.symm h
structure GOk (names : List Nm) (W : List Wn3) : Prop where
  rg : ∀ w ∈ W, w.1 ∈ names ∧ w.2.1 ∈ names ∧ w.1 ≠ w.2.1 ∧ 1 ≤ w.2.2
  le : W.length ≤ 12
theorem GOk.pos {names : List Nm} {W : List Wn3} (h : GOk names W) : ∀ a b m, EW W a b m → 1 ≤ m := fun a b m e => by
  rcases e with e | e
  · exact (h.rg _ e).2.2.2
  · exact (h.rg _ e).2.2.2
theorem GOk.ends {names : List Nm} {W : List Wn3} (h : GOk names W) {a b : Nm} {m : Int} (e : EW W a b m) : a ∈ names ∧ b ∈ names := by
  rcases e with e | e
  · exact ⟨(h.rg _ e).1, (h.rg _ e).2.1⟩
  · exact ⟨(h.rg _ e).2.1, (h.rg _ e).1⟩
theorem nr_iff {W : List Wn3} (u v : Nm) (w : Int) : EW W u v w ↔ (v, w) ∈ nr W u := by
  unfold nr EW
  rw [List.mem_flatMap]
  constructor
  · rintro (h | h)
    · exact ⟨_, h, by simp⟩
    · exact ⟨_, h, by simp⟩
  · rintro ⟨x, hx, h⟩
    obtain ⟨a, b, m⟩ := x
    rw [List.mem_append] at h
    rcases h with h | h
    · by_cases e : a = u
      · simp [e] at h
        obtain ⟨rfl, rfl⟩ := h
        subst e
        exact .inl hx
      · simp [e] at h
    · by_cases e : b = u
      · simp [e] at h
        obtain ⟨rfl, rfl⟩ := h
        subst e
        exact .inr hx
      · simp [e] at h
/-! ### the search, as the program goes -/
def fP (f : Fd) : Ps := f.map fun p => (p.1, .tup [.int p.2.1, .str p.2.2])
def fD (f : Fd) : D := .dct (ky (fP f)) (vl (fP f))
theorem fP_keys {f : Fd} : (fP f).map (·.1) = keys f := by
  unfold fP keys
  rw [List.map_map]
  rfl
theorem bel_fP {n : Nat} : ∀ {f : Fd}, belows n (vl (fP f)) = true
  | [] => rfl
  | p :: f => by
    show (below n (.tup [.int _, .str _]) && belows n (vl (fP f))) = true
    rw [bel_fP]
    rfl
def Tree (E : Ed) (a : Nm) (f : Fd) : Prop := ∀ (i : Nat) (v : Nm) (m : Int) (p : Nm), f[i]? = some (v, m, p) → (v = a ∧ m = 0) ∨ ∃ j, j < i ∧ ∃ mp pp, f[j]? = some (p, mp, pp) ∧ E p v (m - mp)
structure Sou (names : List Nm) (W : List Wn3) (a : Nm) (f : Fd) : Prop where
  inv : Inv (EW W) (nr W) a f []
  tr : Tree (EW W) a f
  sub : ∀ v ∈ keys f, v ∈ names
def rem (names : List Nm) (W : List Wn3) (f : Fd) : Nat := ((names.filter fun u => !decide (u ∈ keys f)).map fun u => (nr W u).length).sum
theorem rem_aux {φ : Nm → Nat} {p q : Nm → Bool} {h : Nm} (hq : ∀ y, q y = (p y && !decide (y = h))) (hp : p h = true) : ∀ {zs : List Nm}, zs.Nodup → ((h ∈ zs → ((zs.filter q).map φ).sum + φ h = ((zs.filter p).map φ).sum) ∧ (h ∉ zs → zs.filter q = zs.filter p))
  | [], _ => ⟨(fun h => nomatch h), (fun _ => rfl)⟩
  | z :: zs, nd => by
    obtain ⟨n1, n2⟩ := List.nodup_cons.mp nd
    obtain ⟨i1, i2⟩ := rem_aux (φ := φ) hq hp (zs := zs) n2
    constructor
    · intro hm
      by_cases e : z = h
      · subst e
        have e1 := i2 n1
        have qz : q z = false := by rw [hq]; simp
        rw [List.filter_cons_of_neg (by simp [qz]), List.filter_cons_of_pos hp, e1, List.map_cons, List.sum_cons]
        omega
      · have hm' : h ∈ zs := by
          rcases List.mem_cons.mp hm with q | q
          · exact absurd q.symm e
          · exact q
        have i := i1 hm'
        have qz : q z = p z := by rw [hq]; simp [e]
        by_cases pz : p z = true
        · rw [List.filter_cons_of_pos (by rw [qz]; exact pz), List.filter_cons_of_pos pz, List.map_cons, List.map_cons, List.sum_cons, List.sum_cons]
          omega
        · rw [List.filter_cons_of_neg (by rw [qz]; exact pz), List.filter_cons_of_neg pz]
          exact i
    · intro hm
      rw [List.mem_cons, not_or] at hm
      have qz : q z = p z := by rw [hq]; simp [Ne.symm hm.1]
      by_cases pz : p z = true
      · rw [List.filter_cons_of_pos (by rw [qz]; exact pz), List.filter_cons_of_pos pz, i2 hm.2]
      · rw [List.filter_cons_of_neg (by rw [qz]; exact pz), List.filter_cons_of_neg pz, i2 hm.2]
theorem rem_step {names : List Nm} (nd : names.Nodup) {W : List Wn3} {f : Fd} {h : Nm} {x : Int × Nm} (hm : h ∈ names) (hn : h ∉ keys f) : rem names W (f ++ [(h, x)]) + (nr W h).length = rem names W f := by
  unfold rem
  refine (rem_aux (φ := fun u => (nr W u).length) (p := fun u => !decide (u ∈ keys f)) (q := fun u => !decide (u ∈ keys (f ++ [(h, x)]))) (h := h) (fun y => ?_) (by simpa using hn) nd).1 hm
  have e : keys (f ++ [(h, x)]) = keys f ++ [h] := by simp [keys]
  rw [e, Bool.eq_iff_iff]
  simp
theorem rem0 {names : List Nm} (nd : names.Nodup) : ∀ {W : List Wn3}, GOk names W → rem names W [] ≤ 2 * W.length := by
  intro W
  have : ∀ W : List Wn3, rem names W [] ≤ 2 * W.length := by
    intro W
    have e : ∀ V : List Wn3, rem names V [] = (names.map fun u => (nr V u).length).sum := fun V => by
      unfold rem
      rw [List.filter_eq_self.mpr]
      intro x _
      simp [keys]
    rw [e]
    have one : ∀ (zs : List Nm) (z : Nm), zs.Nodup → (zs.map fun u => if z = u then 1 else 0).sum ≤ 1 := by
      intro zs z
      induction zs with
      | nil => intro _; simp
      | cons y zs ih =>
        intro nd
        obtain ⟨n1, n2⟩ := List.nodup_cons.mp nd
        have := ih n2
        rw [List.map_cons, List.sum_cons]
        by_cases h : z = y
        · subst h
          have z0 : (zs.map fun u => if z = u then 1 else 0).sum = 0 := by
            have : ∀ ws : List Nm, z ∉ ws → (ws.map fun u => if z = u then 1 else 0).sum = 0 := by
              intro ws
              induction ws with
              | nil => intro _; rfl
              | cons w ws ih => intro h; rw [List.mem_cons, not_or] at h; rw [List.map_cons, List.sum_cons, ih h.2, if_neg h.1]
            exact this zs n1
          rw [z0, if_pos rfl]
          omega
        · rw [if_neg h]
          omega
    induction W with
    | nil =>
      have : ∀ zs : List Nm, (zs.map fun u => (nr [] u).length).sum = 0 := by
        intro zs
        induction zs with
        | nil => rfl
        | cons z zs ih => rw [List.map_cons, List.sum_cons, ih]; rfl
      rw [this]
      omega
    | cons w W ih =>
      have h1 := one names w.1 nd
      have h2 := one names w.2.1 nd
      have sp : ∀ zs : List Nm, (zs.map fun u => (nr (w :: W) u).length).sum = (zs.map fun u => if w.1 = u then 1 else 0).sum + (zs.map fun u => if w.2.1 = u then 1 else 0).sum + (zs.map fun u => (nr W u).length).sum := by
        intro zs
        induction zs with
        | nil => rfl
        | cons z zs ih2 =>
          rw [List.map_cons, List.map_cons, List.map_cons, List.map_cons, List.sum_cons, List.sum_cons, List.sum_cons, List.sum_cons, ih2]
          have : (nr (w :: W) z).length = (if w.1 = z then 1 else 0) + (if w.2.1 = z then 1 else 0) + (nr W z).length := by
            unfold nr
            rw [List.flatMap_cons, List.length_append, List.length_append]
            by_cases a : w.1 = z <;> by_cases b : w.2.1 = z <;> simp [a, b]
          omega
      rw [sp, List.length_cons]
      omega
  exact fun _ => this W
theorem heap_in {names : List Nm} {W : List Wn3} (hG : GOk names W) {a : Nm} (ha : a ∈ names) {f : Fd} {hp : List T3} (I : Inv (EW W) (nr W) a f hp) : ∀ t ∈ hp, t.2.1 ∈ names ∧ t.2.2 ∈ names := fun t ht => by
  rcases I.heap t ht with q | ⟨m, p, q1, q2⟩
  · rw [q]; exact ⟨ha, ha⟩
  · have := hG.ends q2
    exact ⟨this.2, this.1⟩
theorem dats_d3 {n : Nat} : ∀ {hp : List T3}, (∀ t ∈ hp, NmOk t.2.1 ∧ NmOk t.2.2) → datDs (n + 1) (hp.map d3) = true
  | [], _ => by simp
  | t :: hp, h => by
    have h0 := h t List.mem_cons_self
    have e : datD (n + 1) (d3 t) = true := by
      show datDs n [.int t.1, .str t.2.1, .str t.2.2] = true
      simp [okS_nm h0.1, okS_nm h0.2]
    rw [List.map_cons, datDs_cons, dats_d3 fun q hq => h q (List.mem_cons_of_mem _ hq), e]
    rfl
theorem erase_d3 {hp : List T3} {l : T3} (hl : l ∈ hp) : ∃ j, hp.findIdx? (· == l) = some j ∧ (hp.map d3).eraseIdx j = (hp.erase l).map d3 := by
  induction hp with
  | nil => cases hl
  | cons t hp ih =>
    by_cases e : t = l
    · subst e
      refine ⟨0, by simp [List.findIdx?_cons], by simp⟩
    · have hl' : l ∈ hp := by
        rcases List.mem_cons.mp hl with q | q
        · exact absurd q.symm e
        · exact q
      obtain ⟨j, h1, h2⟩ := ih hl'
      have eb : (t == l) = false := by simpa using e
      refine ⟨j + 1, by rw [List.findIdx?_cons, eb, h1]; rfl, ?_⟩
      rw [List.erase_cons_tail (by simp [e]), List.map_cons, List.map_cons, List.eraseIdx_cons_succ, h2]
theorem back_nx {s r : Sto} {n : Nat} {xs : List D} {δ : Mp.Env} (h : s[n]? = some (.lst xs)) : (Out.nx δ (s.set n .dead ++ r)).back n xs = .nx δ (s ++ r) := by
  have hl := (List.getElem?_eq_some_iff.mp h).1
  have g : (s.set n .dead ++ r)[n]? = some .dead := by
    rw [List.getElem?_append_left (by rw [List.length_set]; exact hl), List.getElem?_set_self hl]
  have e : (s.set n .dead ++ r).set n (.lst xs) = s ++ r := by
    rw [List.set_append_left _ _ (by rw [List.length_set]; exact hl), List.set_set]
    congr 1
    refine List.ext_getElem? fun j => ?_
    by_cases q : n = j
    · subst q
      rw [List.getElem?_set_self hl, h]
    · rw [List.getElem?_set_ne q]
  unfold Out.back bkS
  dsimp only
  rw [g]
  dsimp only
  rw [e]
theorem n_loop {o0 o1 o2 o4 : Option D} {m : Int} {h : Nm} {o7 : Option D} {c : Cell} {s0 : Sto} : ∀ (es : List (Nm × Int)) (hp : List T3) (o8 o9 : Option D), hp.length + es.length ≤ 1000 →
    ∃ p8 p9, forL (tgT [tgN 8, tgN 9]) g_Feet_sought_b1 (es.map eD) [o0, o1, o2, some (.loc (s0.length + 1)), o4, some (.int m), some (.str h), o7, o8, o9] (s0 ++ [c, .lst (hp.map d3)]) =
      .nx [o0, o1, o2, some (.loc (s0.length + 1)), o4, some (.int m), some (.str h), o7, p8, p9] (s0 ++ [c, .lst ((hp ++ es.map fun e => (m + e.2, e.1, h)).map d3)])
  | [], hp, o8, o9, _ => ⟨o8, o9, by simp⟩
  | e :: es, hp, o8, o9, hl => by
    rw [List.length_cons] at hl
    obtain ⟨p8, p9, g⟩ := n_loop (o0 := o0) (o1 := o1) (o2 := o2) (o4 := o4) (m := m) (h := h) (o7 := o7) (c := c) (s0 := s0) es (hp ++ [(m + e.2, e.1, h)]) (some (.str e.1)) (some (.int e.2)) (by simp; omega)
    refine ⟨p8, p9, ?_⟩
    have l2 : (hp.map d3).length < 1000000 := by rw [List.length_map]; omega
    have a : mAppend (.loc (s0.length + 1)) [.tup [.int (m + e.2), .str e.1, .str h]] (s0 ++ [c, .lst (hp.map d3)]) = .ok .non (s0 ++ [c, .lst ((hp ++ [(m + e.2, e.1, h)]).map d3)]) := by
      rw [mAppend_eq, get_app]
      simp only [List.getElem?_cons_succ, List.getElem?_cons_zero]
      rw [if_pos (by rw [lim_eq]; exact l2), set_app, List.map_append]
      rfl
    have rt : recvTy (s0 ++ [c, .lst (hp.map d3)]) (.loc (s0.length + 1)) = some "list" := by
      rw [recvTy_loc, get_app]
      rfl
    generalize s0 ++ [c, .lst (hp.map d3)] = S at a rt
    generalize s0 ++ [c, .lst ((hp ++ [(m + e.2, e.1, h)]).map d3)] = S' at a g
    rw [List.map_cons, forL_next (δ1 := [o0, o1, o2, some (.loc (s0.length + 1)), o4, some (.int m), some (.str h), o7, some (.str e.1), some (.int e.2)]) (δ2 := [o0, o1, o2, some (.loc (s0.length + 1)), o4, some (.int m), some (.str h), o7, some (.str e.1), some (.int e.2)]) (s2 := S') rfl (by
      unfold g_Feet_sought_b1
      simp [lim_eq, rt, -mAppend_eq, -recvTy_loc]
      rw [a]
      rfl), g]
    simp
theorem Tree.step {E : Ed} {near : Nm → List (Nm × Int)} {a : Nm} {f : Fd} {hp : List T3} (I : Inv E near a f hp) (T : Tree E a f) {l : T3} (hl : l ∈ hp) : Tree E a (f ++ [(l.2.1, l.1, l.2.2)]) := by
  intro i v m p hi
  by_cases h : i < f.length
  · rw [List.getElem?_append_left h] at hi
    rcases T i v m p hi with q | ⟨j, hj, mp, pp, q1, q2⟩
    · exact .inl q
    · exact .inr ⟨j, hj, mp, pp, by rw [List.getElem?_append_left (by omega)]; exact q1, q2⟩
  · have hi2 := (List.getElem?_eq_some_iff.mp hi).1
    rw [List.length_append, List.length_singleton] at hi2
    have e : i = f.length := by omega
    subst e
    rw [List.getElem?_append_right (Nat.le_refl _), Nat.sub_self] at hi
    cases hi
    rcases I.heap l hl with q | ⟨mp, pp, q1, q2⟩
    · left
      rw [q]
      exact ⟨rfl, rfl⟩
    · right
      obtain ⟨j, hj⟩ := List.getElem?_of_mem q1
      have hjl := (List.getElem?_eq_some_iff.mp hj).1
      exact ⟨j, hjl, mp, pp, by rw [List.getElem?_append_left hjl]; exact hj, q2⟩
end Rb
namespace Rb
open PySem PySem.Spec L2 Mp
theorem wh_yes {c : DT} {b : DS} {n : Nat} {δ δ2 : Mp.Env} {s s2 : Sto} (h1 : c δ s = .ok true s) (h2 : b δ s = .nx δ2 s2 ∨ b δ s = .ct δ2 s2) : whL c b (n + 1) δ s = whL c b n δ2 s2 := by
  show (c δ s).out δ _ = _
  rw [h1, out_ok]
  dsimp only
  rcases h2 with h2 | h2 <;> rw [h2]
theorem wh_no {c : DT} {b : DS} {n : Nat} {δ : Mp.Env} {s s1 : Sto} (h1 : c δ s = .ok false s1) : whL c b (n + 1) δ s = .nx δ s1 := by
  show (c δ s).out δ _ = _
  rw [h1, out_ok]
theorem app_at {s r : Sto} {i : Nat} {c : Cell} (h : s[i]? = some c) : (s ++ r)[i]? = some c := by
  rw [List.getElem?_append_left (List.getElem?_eq_some_iff.mp h).1]
  exact h
section
variable {F : Nat} {names : List Nm} {W : List Wn3} {Kn : Ps} {s : Sto} {a : Nm} {f : Fd} {o4 o5 o6 o7 o8 o9 : Option D}
theorem s_cond {hp : List T3} (h : ∀ t ∈ hp, NmOk t.2.1 ∧ NmOk t.2.2) {o0 o1 o2 : Option D} {c : Cell} : tst (dOp oNe (dVar 3) (dLst aNil)) [o0, o1, o2, some (.loc (s.length + 1)), o4, o5, o6, o7, o8, o9] (s ++ [c, .lst (hp.map d3)]) = .ok (!hp.isEmpty) (s ++ [c, .lst (hp.map d3)]) := by
  have g1 : (s ++ [c, .lst (hp.map d3)])[s.length + 1]? = some (.lst (hp.map d3)) := by rw [get_app]; rfl
  generalize s ++ [c, .lst (hp.map d3)] = S at g1
  have q : oNe (.loc (s.length + 1)) (.lst []) S = .ok (.bl (!hp.isEmpty)) S := by
    show oEqG true _ _ S = _
    rw [oEq_loc (y := .lst []) g1 (dats_d3 (n := 62) h) (by rfl)]
    cases hp <;> rfl
  simp only [tst_eq, dOp_eq, dVar_eq, List.getElem?_cons_succ, List.getElem?_cons_zero, bind_ok, dLst_eq, aNil_eq]
  rw [if_pos (by decide)]
  simp only [bind_ok, q]
theorem s_pre {t : T3} {ts : List T3} {o0 o1 : Option D} {c : Cell} (l : T3) (el : l = min3 t ts) :
    ∀ K : DS, (sSeq (sSet 4 (dBi bMin3 (aCons (dVar 3) aNil))) (sSeq (sDrop (dMt "list" mRem3 (dVar 3) (aCons (dVar 4) aNil))) (sSeq (sAsg (dVar 4) (tgT [(tgN 5), (tgN 6), (tgN 7)])) K))) [o0, o1, some (.loc s.length), some (.loc (s.length + 1)), o4, o5, o6, o7, o8, o9] (s ++ [c, Cell.lst ((t :: ts).map d3)]) =
      K [o0, o1, some (.loc s.length), some (.loc (s.length + 1)), some (d3 l), some (.int l.1), some (.str l.2.1), some (.str l.2.2), o8, o9] (s ++ [c, Cell.lst (((t :: ts).erase l).map d3)]) := by
  intro K
  have lm : l ∈ t :: ts := by rw [el]; exact (min3_ok ts t).1
  obtain ⟨j, j1, j2⟩ := erase_d3 lm
  have g1 : (s ++ [c, Cell.lst ((t :: ts).map d3)])[s.length + 1]? = some (.lst ((t :: ts).map d3)) := by rw [get_app]; rfl
  have s1 : (s ++ [c, Cell.lst ((t :: ts).map d3)]).set (s.length + 1) (.lst (((t :: ts).erase l).map d3)) = s ++ [c, Cell.lst (((t :: ts).erase l).map d3)] := by rw [set_app]; rfl
  generalize s ++ [c, Cell.lst ((t :: ts).map d3)] = S at g1 s1
  refine seq_step (δ' := [o0, o1, some (.loc s.length), some (.loc (s.length + 1)), some (d3 l), o5, o6, o7, o8, o9]) (s' := S) ?_ ?_
  · have q : bMin3 [.loc (s.length + 1)] S = .ok (d3 l) S := by
      unfold bMin3
      dsimp only
      rw [lqOf_loc, g1]
      dsimp only
      rw [Option.bind_some, of3s_map]
      dsimp only
      rw [el]
    simp only [sSet_eq, dBi_eq, aCons_eq, aNil_eq, dVar_eq, List.getElem?_cons_succ, List.getElem?_cons_zero, bind_ok, q, out_ok]
    rfl
  · refine seq_step (δ' := [o0, o1, some (.loc s.length), some (.loc (s.length + 1)), some (d3 l), o5, o6, o7, o8, o9]) (s' := s ++ [c, Cell.lst (((t :: ts).erase l).map d3)]) ?_ ?_
    · have q : mRem3 (.loc (s.length + 1)) [d3 l] S = .ok .non (s ++ [c, Cell.lst (((t :: ts).erase l).map d3)]) := by
        unfold mRem3
        dsimp only
        rw [g1]
        dsimp only
        rw [of3s_map]
        have e : of3 (d3 l) = some l := rfl
        rw [e]
        dsimp only
        rw [j1]
        dsimp only
        rw [j2, s1]
      have rt : recvTy S (.loc (s.length + 1)) = some "list" := by rw [recvTy_loc, g1]
      simp only [sDrop_eq, dMt_eq, aCons_eq, aNil_eq, dVar_eq, List.getElem?_cons_succ, List.getElem?_cons_zero, bind_ok, rt, if_true, q, out_ok]
    · exact seq_step (δ' := [o0, o1, some (.loc s.length), some (.loc (s.length + 1)), some (d3 l), some (.int l.1), some (.str l.2.1), some (.str l.2.2), o8, o9]) (s' := s ++ [c, Cell.lst (((t :: ts).erase l).map d3)]) rfl rfl
theorem s_old {t : T3} {ts : List T3} {o0 o1 : Option D} (l : T3) (el : l = min3 t ts) (hin : l.2.1 ∈ keys f) :
    g_Feet_sought_b2 [o0, o1, some (.loc s.length), some (.loc (s.length + 1)), o4, o5, o6, o7, o8, o9] (s ++ [Cell.dct (ky (fP f)) (vl (fP f)), Cell.lst ((t :: ts).map d3)]) =
      .ct [o0, o1, some (.loc s.length), some (.loc (s.length + 1)), some (d3 l), some (.int l.1), some (.str l.2.1), some (.str l.2.2), o8, o9] (s ++ [Cell.dct (ky (fP f)) (vl (fP f)), Cell.lst (((t :: ts).erase l).map d3)]) := by
  unfold g_Feet_sought_b2
  rw [s_pre l el]
  have g0 : (s ++ [Cell.dct (ky (fP f)) (vl (fP f)), Cell.lst (((t :: ts).erase l).map d3)])[s.length]? = some (.dct (ky (fP f)) (vl (fP f))) := by rw [get_app0]; rfl
  obtain ⟨v, hv⟩ := lk_mem (P := fP f) (z := l.2.1) (by rw [fP_keys]; exact hin)
  generalize s ++ [Cell.dct (ky (fP f)) (vl (fP f)), Cell.lst (((t :: ts).erase l).map d3)] = S at g0
  simp [g0, hv]
theorem s_new (hF : Ft F names (nr W) Kn s) (hN : NsOk names) (hG : GOk names W) {t : T3} {ts : List T3} {o1 : Option D} (l : T3) (el : l = min3 t ts) (hin : l.2.1 ∉ keys f) (hm : l.2.1 ∈ names) (hf : f.length ≤ 100) (ht : (t :: ts).length ≤ 500) :
    ∃ p8 p9, g_Feet_sought_b2 [some (.loc F), o1, some (.loc s.length), some (.loc (s.length + 1)), o4, o5, o6, o7, o8, o9] (s ++ [Cell.dct (ky (fP f)) (vl (fP f)), Cell.lst ((t :: ts).map d3)]) =
      .nx [some (.loc F), o1, some (.loc s.length), some (.loc (s.length + 1)), some (d3 l), some (.int l.1), some (.str l.2.1), some (.str l.2.2), p8, p9] (s ++ [Cell.dct (ky (fP (f ++ [(l.2.1, l.1, l.2.2)]))) (vl (fP (f ++ [(l.2.1, l.1, l.2.2)]))), Cell.lst (((t :: ts).erase l ++ (nr W l.2.1).map fun e => (l.1 + e.2, e.1, l.2.1)).map d3)]) := by
  obtain ⟨i, hi⟩ := List.getElem?_of_mem hm
  have cl := hF.l i _ hi
  have nl := (List.getElem?_eq_some_iff.mp cl).1
  have nk := hF.near hN.nd hi
  have le := nr_len (u := l.2.1) (W := W)
  have wl := hG.le
  have el2 : ((t :: ts).erase l).length ≤ (t :: ts).length := List.length_erase_le
  obtain ⟨p8, p9, g⟩ := n_loop (o0 := some (.loc F)) (o1 := o1) (o2 := some (.loc s.length)) (o4 := some (d3 l)) (m := l.1) (h := l.2.1) (o7 := some (.str l.2.2)) (c := .dct (ky (fP (f ++ [(l.2.1, l.1, l.2.2)]))) (vl (fP (f ++ [(l.2.1, l.1, l.2.2)])))) (s0 := s.set (F + 1 + i) .dead) (nr W l.2.1) ((t :: ts).erase l) o8 o9 (by omega)
  rw [List.length_set] at g
  refine ⟨p8, p9, ?_⟩
  unfold g_Feet_sought_b2
  rw [s_pre l el]
  have hnk : l.2.1 ∉ (fP f).map (·.1) := by rw [fP_keys]; exact hin
  obtain ⟨l1, l2⟩ := lk_no hnk
  obtain ⟨k1, k2⟩ := set_new (d := .tup [.int l.1, .str l.2.2]) hnk
  have ef : fP f ++ [(l.2.1, .tup [.int l.1, .str l.2.2])] = fP (f ++ [(l.2.1, l.1, l.2.2)]) := by simp [fP]
  rw [ef] at k1 k2
  have hlf : (ky (fP f)).length < 1000 := by
    show (List.map _ (List.map _ f)).length < 1000
    rw [List.length_map, List.length_map]
    omega
  have g0 : (s ++ [Cell.dct (ky (fP f)) (vl (fP f)), Cell.lst (((t :: ts).erase l).map d3)])[s.length]? = some (.dct (ky (fP f)) (vl (fP f))) := by rw [get_app0]; rfl
  have e3 : (s ++ [Cell.dct (ky (fP f)) (vl (fP f)), Cell.lst (((t :: ts).erase l).map d3)]).set s.length (.dct (ky (fP (f ++ [(l.2.1, l.1, l.2.2)]))) (vl (fP (f ++ [(l.2.1, l.1, l.2.2)])))) = s ++ [Cell.dct (ky (fP (f ++ [(l.2.1, l.1, l.2.2)]))) (vl (fP (f ++ [(l.2.1, l.1, l.2.2)]))), Cell.lst (((t :: ts).erase l).map d3)] := by rw [set_app0]; rfl
  generalize s ++ [Cell.dct (ky (fP f)) (vl (fP f)), Cell.lst (((t :: ts).erase l).map d3)] = S at g0 e3
  refine seq_step (δ' := [some (.loc F), o1, some (.loc s.length), some (.loc (s.length + 1)), some (d3 l), some (.int l.1), some (.str l.2.1), some (.str l.2.2), o8, o9]) (s' := S) (by simp [g0, l1]) ?_
  refine seq_step (δ' := [some (.loc F), o1, some (.loc s.length), some (.loc (s.length + 1)), some (d3 l), some (.int l.1), some (.str l.2.1), some (.str l.2.2), o8, o9]) (s' := s ++ [Cell.dct (ky (fP (f ++ [(l.2.1, l.1, l.2.2)]))) (vl (fP (f ++ [(l.2.1, l.1, l.2.2)]))), Cell.lst (((t :: ts).erase l).map d3)]) ?_ ?_
  · have tt : dTup (aCons (dVar 5) (aCons (dVar 7) aNil)) [some (.loc F), o1, some (.loc s.length), some (.loc (s.length + 1)), some (d3 l), some (.int l.1), some (.str l.2.1), some (.str l.2.2), o8, o9] S = .ok (.tup [.int l.1, .str l.2.2]) S := by simp [lim_eq]
    simp only [sDput_eq, tt, out_ok, dVar_eq, List.getElem?_cons_succ, List.getElem?_cons_zero, keyD_str, g0]
    rw [if_pos hlf, k1, k2, e3]
  · have fl : dDix (dFld csT 7 0 (dVar 0)) (dVar 6) [some (.loc F), o1, some (.loc s.length), some (.loc (s.length + 1)), some (d3 l), some (.int l.1), some (.str l.2.1), some (.str l.2.2), o8, o9] (s ++ [Cell.dct (ky (fP (f ++ [(l.2.1, l.1, l.2.2)]))) (vl (fP (f ++ [(l.2.1, l.1, l.2.2)]))), Cell.lst (((t :: ts).erase l).map d3)]) = .ok (.loc (F + 1 + i)) (s ++ [Cell.dct (ky (fP (f ++ [(l.2.1, l.1, l.2.2)]))) (vl (fP (f ++ [(l.2.1, l.1, l.2.2)]))), Cell.lst (((t :: ts).erase l).map d3)]) := by
      have q1 := app_at (r := [Cell.dct (ky (fP (f ++ [(l.2.1, l.1, l.2.2)]))) (vl (fP (f ++ [(l.2.1, l.1, l.2.2)]))), Cell.lst (((t :: ts).erase l).map d3)]) hF.o
      have q2 := app_at (r := [Cell.dct (ky (fP (f ++ [(l.2.1, l.1, l.2.2)]))) (vl (fP (f ++ [(l.2.1, l.1, l.2.2)]))), Cell.lst (((t :: ts).erase l).map d3)]) hF.d
      generalize s ++ [Cell.dct (ky (fP (f ++ [(l.2.1, l.1, l.2.2)]))) (vl (fP (f ++ [(l.2.1, l.1, l.2.2)]))), Cell.lst (((t :: ts).erase l).map d3)] = S2 at q1 q2
      simp [q1, q2, oDix, nk]
    have gl : (s ++ [Cell.dct (ky (fP (f ++ [(l.2.1, l.1, l.2.2)]))) (vl (fP (f ++ [(l.2.1, l.1, l.2.2)]))), Cell.lst (((t :: ts).erase l).map d3)])[F + 1 + i]? = some (.lst ((nr W l.2.1).map eD)) := by
      rw [List.getElem?_append_left nl]
      exact cl
    have sl : (s ++ [Cell.dct (ky (fP (f ++ [(l.2.1, l.1, l.2.2)]))) (vl (fP (f ++ [(l.2.1, l.1, l.2.2)]))), Cell.lst (((t :: ts).erase l).map d3)]).set (F + 1 + i) .dead = s.set (F + 1 + i) .dead ++ [Cell.dct (ky (fP (f ++ [(l.2.1, l.1, l.2.2)]))) (vl (fP (f ++ [(l.2.1, l.1, l.2.2)]))), Cell.lst (((t :: ts).erase l).map d3)] := List.set_append_left _ _ nl
    unfold sForA
    rw [fl, out_ok]
    dsimp only
    rw [gl]
    dsimp only
    rw [sl, g]
    exact back_nx cl
theorem s_loop (hF : Ft F names (nr W) Kn s) (hN : NsOk names) (hG : GOk names W) (ha : a ∈ names) {o1 : Option D} : ∀ (k : Nat) (f : Fd) (hp : List T3) (n : Nat) (o4 o5 o6 o7 o8 o9 : Option D), hp.length + rem names W f ≤ k → k ≤ 30 → k < n → Inv (EW W) (nr W) a f hp → Tree (EW W) a f → (∀ v ∈ keys f, v ∈ names) →
    ∃ f' p4 p5 p6 p7 p8 p9, Sou names W a f' ∧ whL (tst (dOp oNe (dVar 3) (dLst aNil))) g_Feet_sought_b2 n [some (.loc F), o1, some (.loc s.length), some (.loc (s.length + 1)), o4, o5, o6, o7, o8, o9] (s ++ [Cell.dct (ky (fP f)) (vl (fP f)), .lst (hp.map d3)]) =
      .nx [some (.loc F), o1, some (.loc s.length), some (.loc (s.length + 1)), p4, p5, p6, p7, p8, p9] (s ++ [Cell.dct (ky (fP f')) (vl (fP f')), Cell.lst []])
  | k, f, [], n, o4, o5, o6, o7, o8, o9, hk, hk2, hn, I, T, hs => by
    obtain ⟨n, rfl⟩ : ∃ n', n = n' + 1 := ⟨n - 1, by omega⟩
    refine ⟨f, o4, o5, o6, o7, o8, o9, ⟨I, T, hs⟩, ?_⟩
    exact wh_no (s_cond (hp := []) (fun t h => nomatch h))
  | 0, f, t :: ts, n, o4, o5, o6, o7, o8, o9, hk, hk2, hn, I, T, hs => by
    rw [List.length_cons] at hk
    omega
  | k + 1, f, t :: ts, n, o4, o5, o6, o7, o8, o9, hk, hk2, hn, I, T, hs => by
    obtain ⟨n, rfl⟩ : ∃ n', n = n' + 1 := ⟨n - 1, by omega⟩
    have hin := heap_in hG ha I
    have hc := s_cond (s := s) (hp := t :: ts) (o4 := o4) (o5 := o5) (o6 := o6) (o7 := o7) (o8 := o8) (o9 := o9) (o0 := some (.loc F)) (o1 := o1) (o2 := some (.loc s.length)) (c := .dct (ky (fP f)) (vl (fP f))) (fun u hu => ⟨hN.nm _ (hin u hu).1, hN.nm _ (hin u hu).2⟩)
    have lm := (min3_ok ts t).1
    have fl : f.length ≤ 8 := by
      have := nd_len I.nd hs
      have := hN.le
      have e : (keys f).length = f.length := by simp [keys]
      omega
    have he : ((t :: ts).erase (min3 t ts)).length + 1 = (t :: ts).length := by
      rw [List.length_erase_of_mem lm, List.length_cons]
      omega
    have st := @Inv.step (EW W) (nr W) hG.pos nr_iff a f t ts I
    unfold stepS at st
    dsimp only at st
    by_cases c : (min3 t ts).2.1 ∈ keys f
    · rw [if_pos c] at st
      have I2 := st rfl
      have b := s_old (s := s) (f := f) (t := t) (ts := ts) (o0 := some (.loc F)) (o1 := o1) (o4 := o4) (o5 := o5) (o6 := o6) (o7 := o7) (o8 := o8) (o9 := o9) (min3 t ts) rfl c
      obtain ⟨f', p4, p5, p6, p7, p8, p9, r1, r2⟩ := s_loop hF hN hG ha (o1 := o1) k f ((t :: ts).erase (min3 t ts)) n _ _ _ _ o8 o9 (by omega) (by omega) (by omega) I2 T hs
      refine ⟨f', p4, p5, p6, p7, p8, p9, r1, ?_⟩
      rw [wh_yes hc (.inr b)]
      exact r2
    · rw [if_neg c] at st
      have I2 := st rfl
      have hm := (hin _ lm).1
      have rs := rem_step hN.nd (W := W) (f := f) (h := (min3 t ts).2.1) (x := ((min3 t ts).1, (min3 t ts).2.2)) hm c
      rw [List.length_cons] at hk
      obtain ⟨q8, q9, b⟩ := s_new (o1 := o1) (o4 := o4) (o5 := o5) (o6 := o6) (o7 := o7) (o8 := o8) (o9 := o9) hF hN hG (min3 t ts) rfl c hm (by omega) (by rw [List.length_cons]; omega)
      obtain ⟨f', p4, p5, p6, p7, p8, p9, r1, r2⟩ := s_loop hF hN hG ha (o1 := o1) k (f ++ [((min3 t ts).2.1, (min3 t ts).1, (min3 t ts).2.2)]) ((t :: ts).erase (min3 t ts) ++ (nr W (min3 t ts).2.1).map fun e => ((min3 t ts).1 + e.2, e.1, (min3 t ts).2.1)) n _ _ _ _ q8 q9 (by rw [List.length_append, List.length_map]; rw [List.length_cons] at he; omega) (by omega) (by omega) I2 (T.step I lm) (fun v hv => by
        have e : keys (f ++ [((min3 t ts).2.1, (min3 t ts).1, (min3 t ts).2.2)]) = keys f ++ [(min3 t ts).2.1] := by simp [keys]
        rw [e] at hv
        rcases List.mem_append.mp hv with hv | hv
        · exact hs v hv
        · rw [List.mem_singleton.mp hv]; exact hm)
      refine ⟨f', p4, p5, p6, p7, p8, p9, r1, ?_⟩
      rw [wh_yes hc (.inl b)]
      exact r2
theorem p_sought (hF : Ft F names (nr W) Kn s) (hN : NsOk names) (hG : GOk names W) (hs : Sb s) (ha : a ∈ names) : ∃ f, Sou names W a f ∧ f_Feet_sought [.loc F, .str a] s = .ok (fD f) s := by
  have r0 := rem0 hN.nd hG
  have wl := hG.le
  obtain ⟨f, p4, p5, p6, p7, p8, p9, h1, h2⟩ := s_loop hF hN hG ha (o1 := some (.str a)) (1 + rem names W []) [] [(0, a, a)] 64 none none none none none none (by simp) (by omega) (by omega) Inv.init (fun i v m p h => by simp at h) (fun v hv => by simp [keys] at hv)
  refine ⟨f, h1, ?_⟩
  have key : g_Feet_sought [some (.loc F), some (.str a), none, none, none, none, none, none, none, none] s = .rt (fD f) (s ++ [Cell.dead, Cell.lst []]) := by
    unfold g_Feet_sought
    refine seq_step (δ' := [some (.loc F), some (.str a), some (.loc s.length), none, none, none, none, none, none, none]) (s' := s ++ [Cell.dct [] []]) (by simp) ?_
    refine seq_step (δ' := [some (.loc F), some (.str a), some (.loc s.length), some (.loc (s.length + 1)), none, none, none, none, none, none]) (s' := s ++ [Cell.dct [] [], Cell.lst [d3 (0, a, a)]]) (by simp [lim_eq, d3]) ?_
    refine seq_step (δ' := [some (.loc F), some (.str a), some (.loc s.length), some (.loc (s.length + 1)), p4, p5, p6, p7, p8, p9]) (s' := s ++ [Cell.dct (ky (fP f)) (vl (fP f)), Cell.lst []]) h2 ?_
    refine seq_step (δ' := [some (.loc F), some (.str a), some (fD f), some (.loc (s.length + 1)), p4, p5, p6, p7, p8, p9]) (s' := s ++ [Cell.dead, Cell.lst []]) (by
      have g0 : (s ++ [Cell.dct (ky (fP f)) (vl (fP f)), Cell.lst []])[s.length]? = some (.dct (ky (fP f)) (vl (fP f))) := get_app0
      have e0 : (s ++ [Cell.dct (ky (fP f)) (vl (fP f)), Cell.lst []]).set s.length .dead = s ++ [Cell.dead, .lst []] := set_app0
      unfold sFrz
      simp only [List.getElem?_cons_succ, List.getElem?_cons_zero]
      unfold frzD
      simp only [g0, e0]
      rfl) ?_
    simp
  show finO s.length (g_Feet_sought [some (.loc F), some (.str a), none, none, none, none, none, none, none, none] s) = _
  rw [key, fin_rt]
  exact cut_back hs bel_fP
end
end Rb
namespace Rb
open PySem PySem.Spec L2 Mp
/-! ### what is known -/
structure KnOk (names : List Nm) (W : List Wn3) (Kn : Ps) : Prop where
  nd : (Kn.map (·.1)).Nodup
  ok : ∀ p ∈ Kn, p.1 ∈ names ∧ ∃ f, p.2 = fD f ∧ Sou names W p.1 f
theorem KnOk.nil {names : List Nm} {W : List Wn3} : KnOk names W [] := ⟨.nil, fun p h => nomatch h⟩
theorem bel_Kn {n : Nat} {names : List Nm} {W : List Wn3} : ∀ {Kn : Ps}, (∀ p ∈ Kn, p.1 ∈ names ∧ ∃ f, p.2 = fD f ∧ Sou names W p.1 f) → belows n (vl Kn) = true
  | [], _ => rfl
  | p :: Kn, h => by
    obtain ⟨_, f, e, _⟩ := h p List.mem_cons_self
    show (below n p.2 && belows n (vl Kn)) = true
    rw [bel_Kn fun q hq => h q (List.mem_cons_of_mem _ hq), e]
    have := bel_fP (n := n) (f := f)
    simp [fD, below, this]
theorem lk_some {z : Nm} {d : D} : ∀ {P : Ps}, lkD (.str z) (ky P) (vl P) = some d → (z, d) ∈ P
  | [], h => by cases h
  | u :: P, h => by
    have h' : (if eqK (.str u.1) (.str z) = true then some u.2 else lkD (.str z) (ky P) (vl P)) = some d := h
    by_cases e : u.1 = z
    · rw [eqK_str, if_pos (by simpa using e)] at h'
      cases h'
      rw [← e]
      exact List.mem_cons_self
    · rw [eqK_str, if_neg (by simpa using e)] at h'
      exact List.mem_cons_of_mem _ (lk_some h')
/-- the feet at F, sound -/
structure Fs (F : Nat) (names : List Nm) (W : List Wn3) (s : Sto) : Prop where
  ft : ∃ Kn, Ft F names (nr W) Kn s ∧ KnOk names W Kn
/-- what a question may change -/
structure Ch (F n : Nat) (s s' : Sto) : Prop where
  len : s'.length = s.length
  sb : Sb s'
  at_ : ∀ i, i ≠ F + 2 + n → s'[i]? = s[i]?
theorem Ch.trans {F n : Nat} {s s1 s2 : Sto} (h : Ch F n s s1) (k : Ch F n s1 s2) : Ch F n s s2 := ⟨by rw [k.len, h.len], k.sb, fun i hi => by rw [k.at_ i hi, h.at_ i hi]⟩
theorem Ch.refl {F n : Nat} {s : Sto} (h : Sb s) : Ch F n s s := ⟨rfl, h, fun _ _ => rfl⟩
section
variable {F : Nat} {names : List Nm} {W : List Wn3} {s : Sto}
theorem p_fneed {g : Nm → List (Nm × Int)} {Kn : Ps} (h : Ft F names g Kn s) (nd : names.Nodup) {z : Nm} (hz : z ∈ names) : f_Feet_need [.loc F, .str z] s = .ok .non s := by
  obtain ⟨i, hi⟩ := List.getElem?_of_mem hz
  have n := h.near nd hi
  have i1 : bIsO parT parA csT [.str z, .ty "str"] s = .ok (.bl true) s := iso_ty (t := "str") rfl kit_ss
  simp [f_Feet_need, mkF, g_Feet_need, i1, h.o, h.d, n]
theorem Ft.learn {g : Nm → List (Nm × Int)} {Kn Kn' : Ps} (h : Ft F names g Kn s) : Ft F names g Kn' (s.set (F + 2 + names.length) (.dct (ky Kn') (vl Kn'))) := by
  refine ⟨by rw [List.getElem?_set_ne (by omega)]; exact h.o, by rw [List.getElem?_set_ne (by omega)]; exact h.d, fun i z hi => ?_, ?_⟩
  · have := (List.getElem?_eq_some_iff.mp hi).1
    rw [List.getElem?_set_ne (by omega)]
    exact h.l i z hi
  · rw [List.getElem?_set_self]
    exact (List.getElem?_eq_some_iff.mp h.k).1
theorem p_led (hF : Fs F names W s) (hs : Sb s) (hN : NsOk names) (hG : GOk names W) {a b : Nm} (ha : a ∈ names) (hb : b ∈ names) :
    ∃ s' f, Fs F names W s' ∧ Ch F names.length s s' ∧ Sou names W a f ∧ f_Feet_led [.loc F, .str a, .str b] s = .ok (if b ∈ keys f then fD f else .non) s' := by
  obtain ⟨Kn, ft, kn⟩ := hF.ft
  have e1 := p_fneed ft hN.nd ha
  have e2 := p_fneed ft hN.nd hb
  have fin : ∀ (s' : Sto) (Kn' : Ps) (f : Fd), Ft F names (nr W) Kn' s' → KnOk names W Kn' → Ch F names.length s s' → lkD (.str a) (ky Kn') (vl Kn') = some (fD f) → Sou names W a f →
      (sIf (tst (dDin true (dVar 1) (dFld csT 7 1 (dVar 0)))) (sDput (dMeth 7 [(18, f_Feet_sought)] (dVar 0) (aCons (dVar 1) aNil)) (dFld csT 7 1 (dVar 0)) (dVar 1)) sPass) [some (.loc F), some (.str a), some (.str b)] s = .nx [some (.loc F), some (.str a), some (.str b)] s' →
      ∃ s' f, Fs F names W s' ∧ Ch F names.length s s' ∧ Sou names W a f ∧ f_Feet_led [.loc F, .str a, .str b] s = .ok (if b ∈ keys f then fD f else .non) s' := by
    intro s' Kn' f ft' kn' ch lk so h
    refine ⟨s', f, ⟨Kn', ft', kn'⟩, ch, so, ?_⟩
    have key : g_Feet_led [some (.loc F), some (.str a), some (.str b)] s = .rt (if b ∈ keys f then fD f else .non) s' := by
      unfold g_Feet_led
      refine seq_step (δ' := [some (.loc F), some (.str a), some (.str b)]) (s' := s) (by simp [dMeth_eq, List.lookup, ft.o, e1]) ?_
      refine seq_step (δ' := [some (.loc F), some (.str a), some (.str b)]) (s' := s) (by simp [dMeth_eq, List.lookup, ft.o, e2]) ?_
      refine seq_step h ?_
      by_cases c : b ∈ keys f
      · obtain ⟨v, hv⟩ := lk_mem (P := fP f) (z := b) (by rw [fP_keys]; exact c)
        rw [if_pos c]
        refine seq_step (δ' := [some (.loc F), some (.str a), some (.str b)]) (s' := s') (by simp [ft'.o, ft'.k, oDix, lk, fD, hv]) ?_
        simp [ft'.o, ft'.k, oDix, lk]
      · obtain ⟨hv, _⟩ := lk_no (P := fP f) (z := b) (by rw [fP_keys]; exact c)
        rw [if_neg c]
        refine seq_ret ?_
        simp [ft'.o, ft'.k, oDix, lk, fD, hv]
    show finO s.length (g_Feet_led [some (.loc F), some (.str a), some (.str b)] s) = _
    rw [key, fin_rt]
    exact cut_len ch.len
  by_cases c : a ∈ Kn.map (·.1)
  · obtain ⟨v, hv⟩ := lk_mem c
    obtain ⟨_, f, e, so⟩ := kn.ok _ (lk_some hv)
    simp only at e so
    subst e
    exact fin s Kn f ft kn (Ch.refl hs) hv so (by simp [ft.o, ft.k, hv])
  · obtain ⟨l1, l2⟩ := lk_no c
    obtain ⟨f, so, es⟩ := p_sought ft hN hG hs ha
    obtain ⟨k1, k2⟩ := set_new (d := fD f) c
    have nd' : ((Kn ++ [(a, fD f)]).map (·.1)).Nodup := by
      rw [List.map_append, List.nodup_append]
      refine ⟨kn.nd, by simp, fun x hx y hy => ?_⟩
      simp at hy
      subst hy
      exact fun e => c (e ▸ hx)
    have kn' : KnOk names W (Kn ++ [(a, fD f)]) := ⟨nd', fun p hp => by
      rcases List.mem_append.mp hp with hp | hp
      · exact kn.ok p hp
      · rw [List.mem_singleton.mp hp]
        exact ⟨ha, f, rfl, so⟩⟩
    have ln : (ky Kn).length < 1000 := by
      have h1 := nd_len kn.nd (m := names) (fun x hx => by
        obtain ⟨p, hp, rfl⟩ := List.mem_map.mp hx
        exact (kn.ok p hp).1)
      have h2 := hN.le
      rw [List.length_map] at h1 ⊢
      omega
    have lk' : lkD (.str a) (ky (Kn ++ [(a, fD f)])) (vl (Kn ++ [(a, fD f)])) = some (fD f) := lk_yes (t := (a, fD f)) nd' (List.mem_append_right _ (List.mem_singleton.mpr rfl))
    refine fin _ (Kn ++ [(a, fD f)]) f ft.learn kn' ⟨by rw [List.length_set], sb_set hs (bel_Kn kn'.ok), fun i hi => by rw [List.getElem?_set_ne (Ne.symm hi)]⟩ lk' so ?_
    have t1 : tst (dDin true (dVar 1) (dFld csT 7 1 (dVar 0))) [some (.loc F), some (.str a), some (.str b)] s = .ok true s := by simp [ft.o, ft.k, l1]
    rw [sIf_eq, t1]
    simp only [out_ok, if_true]
    have t2 : dMeth 7 [(18, f_Feet_sought)] (dVar 0) (aCons (dVar 1) aNil) [some (.loc F), some (.str a), some (.str b)] s = .ok (fD f) s := by simp [dMeth_eq, List.lookup, ft.o, es]
    have t3 : dFld csT 7 1 (dVar 0) [some (.loc F), some (.str a), some (.str b)] s = .ok (.loc (F + 2 + names.length)) s := by simp [ft.o]
    simp only [sDput_eq, t2, t3, out_ok, dVar_eq, List.getElem?_cons_succ, List.getElem?_cons_zero, keyD_str, ft.k]
    rw [if_pos ln, k1, k2]
def oD : Option Int → D
  | some d => .int d
  | none => .non
theorem Sou.is {a : Nm} {f : Fd} (h : Sou names W a f) {b : Nm} : (b ∉ keys f ∧ IsD (EW W) a b none) ∨ ∃ m p, (b, m, p) ∈ f ∧ IsD (EW W) a b (some m) := by
  obtain ⟨d1, d2⟩ := h.inv.done b
  by_cases c : b ∈ keys f
  · obtain ⟨m, p, hm⟩ := keys_mem.mp c
    exact .inr ⟨m, p, hm, d1 m p hm⟩
  · exact .inl ⟨c, d2 c⟩
theorem fP_mem {f : Fd} {b : Nm} {m : Int} {p : Nm} (nd : (keys f).Nodup) (h : (b, m, p) ∈ f) : lkD (.str b) (ky (fP f)) (vl (fP f)) = some (.tup [.int m, .str p]) :=
  lk_yes (t := (b, .tup [.int m, .str p])) (by rw [fP_keys]; exact nd) (List.mem_map_of_mem (f := fun p : Nm × Int × Nm => (p.1, D.tup [.int p.2.1, .str p.2.2])) h)
theorem p_minutes (hF : Fs F names W s) (hs : Sb s) (hN : NsOk names) (hG : GOk names W) {a b : Nm} (ha : a ∈ names) (hb : b ∈ names) :
    ∃ s' o, Fs F names W s' ∧ Ch F names.length s s' ∧ IsD (EW W) a b o ∧ f_Feet_minutes [.loc F, .str a, .str b] s = .ok (oD o) s' := by
  obtain ⟨Kn, ft, kn⟩ := hF.ft
  obtain ⟨s', f, h1, h2, h3, h4⟩ := p_led hF hs hN hG ha hb
  rcases h3.is (b := b) with ⟨c, i⟩ | ⟨m, p, hm, i⟩
  · refine ⟨s', none, h1, h2, i, ?_⟩
    rw [if_neg c] at h4
    have key : g_Feet_minutes [some (.loc F), some (.str a), some (.str b), none] s = .rt .non s' := by
      unfold g_Feet_minutes
      refine seq_step (δ' := [some (.loc F), some (.str a), some (.str b), some .non]) (s' := s') (by simp [dMeth_eq, List.lookup, ft.o, h4]) ?_
      refine seq_ret ?_
      simp
    show finO s.length (g_Feet_minutes [some (.loc F), some (.str a), some (.str b), none] s) = _
    rw [key, fin_rt]
    exact cut_len h2.len
  · refine ⟨s', some m, h1, h2, i, ?_⟩
    rw [if_pos (keys_mem.mpr ⟨m, p, hm⟩)] at h4
    have lk := fP_mem h3.inv.nd hm
    have key : g_Feet_minutes [some (.loc F), some (.str a), some (.str b), none] s = .rt (.int m) s' := by
      unfold g_Feet_minutes
      refine seq_step (δ' := [some (.loc F), some (.str a), some (.str b), some (fD f)]) (s' := s') (by simp [dMeth_eq, List.lookup, ft.o, h4]) ?_
      have nn : isNon (fD f) = false := rfl
      refine seq_step (δ' := [some (.loc F), some (.str a), some (.str b), some (fD f)]) (s' := s') (by simp [nn]) ?_
      simp [oDix, fD, lk]
    show finO s.length (g_Feet_minutes [some (.loc F), some (.str a), some (.str b), none] s) = _
    rw [key, fin_rt]
    exact cut_len h2.len
/-! ### ways -/
inductive Chn (E : Ed) : List Nm → Int → Prop
  | one (a : Nm) : Chn E [a] 0
  | cons {a b : Nm} {r : List Nm} {w n : Int} : E a b w → Chn E (b :: r) n → Chn E (a :: b :: r) (w + n)
/-- a way from a to b that takes m -/
structure Way (E : Ed) (a b : Nm) (ws : List Nm) (m : Int) : Prop where
  ch : Chn E ws m
  hd : ws.head? = some a
  la : ws.getLast? = some b
theorem at_last {xs : List D} {d : D} : atI (xs ++ [d]) (-1) = some d := by
  unfold atI ixN
  have e : ((-1 : Int) + ((xs.length : Int) + 1)).toNat = xs.length := by omega
  have e' : (1 : Int) ≤ (xs.length : Int) + 1 := by omega
  simp [e, e']
theorem w_loop (hG : GOk names W) {a b0 : Nm} {f : Fd} (so : Sou names W a f) {o0 o2 : Option D} {tot : Int} : ∀ (i : Nat) (v : Nm) (m : Int) (p : Nm) (r : List Nm) (n : Nat), f[i]? = some (v, m, p) → i < n → r.length + i ≤ 500 → Chn (EW W) (v :: r) (tot - m) → (v :: r).getLast? = some b0 →
    ∃ ws, Way (EW W) a b0 ws tot ∧ ws.length ≤ 1000 ∧ whL (tst (dOp oNe (dOp oIx (dVar 4) (dUn (fun i => -i) (dC (.int 1)))) (dVar 1))) g_Feet_way_b1 n [o0, some (.str a), o2, some (fD f), some (.loc s.length)] (s ++ [.lst ((v :: r).reverse.map D.str)]) =
      .nx [o0, some (.str a), o2, some (fD f), some (.loc s.length)] (s ++ [.lst (ws.reverse.map D.str)]) := by
  intro i
  induction i using Nat.strongRecOn with
  | _ i ih =>
    intro v m p r n hi hn hr hc hl
    obtain ⟨n, rfl⟩ : ∃ n', n = n' + 1 := ⟨n - 1, by omega⟩
    have er : (v :: r).reverse.map D.str = r.reverse.map D.str ++ [.str v] := by simp
    have g0 : (s ++ [Cell.lst ((v :: r).reverse.map D.str)])[s.length]? = some (.lst (r.reverse.map D.str ++ [.str v])) := by rw [get_app0, er]; rfl
    have la : oIx (.loc s.length) (.int (-1)) (s ++ [Cell.lst ((v :: r).reverse.map D.str)]) = .ok (.str v) (s ++ [Cell.lst ((v :: r).reverse.map D.str)]) := by
      rw [oIx_loc, lqOf_loc, g0]
      simp [at_last]
    have hc0 : tst (dOp oNe (dOp oIx (dVar 4) (dUn (fun i => -i) (dC (.int 1)))) (dVar 1)) [o0, some (.str a), o2, some (fD f), some (.loc s.length)] (s ++ [Cell.lst ((v :: r).reverse.map D.str)]) = .ok (true != (v == a)) (s ++ [Cell.lst ((v :: r).reverse.map D.str)]) := by
      simp only [tst_eq, dOp_eq, dVar_eq, List.getElem?_cons_succ, List.getElem?_cons_zero, bind_ok, dUn_eq, dC_eq, la, oEq_str]
    by_cases e : v = a
    · subst e
      have m0 : m = 0 := by
        have d := (so.inv.done v).1 m p (List.mem_of_getElem? hi)
        have h1 := d.2 0 (.nil v)
        have h2 := d.1.nonneg hG.pos
        omega
      rw [m0, Int.sub_zero] at hc
      refine ⟨v :: r, ⟨hc, rfl, hl⟩, by rw [List.length_cons]; omega, ?_⟩
      have h0 : (true != (v == v)) = false := by simp
      rw [h0] at hc0
      exact wh_no hc0
    · rcases so.tr i v m p hi with ⟨q, _⟩ | ⟨j, hj, mp, pp, q1, q2⟩
      · exact absurd q e
      · have lk := fP_mem so.inv.nd (List.mem_of_getElem? hi)
        have h0 : (true != (v == a)) = true := by
          have : (v == a) = false := by simpa using e
          rw [this]
          rfl
        rw [h0] at hc0
        have hc2 : Chn (EW W) (p :: v :: r) (tot - mp) := by
          have := Chn.cons q2 hc
          rw [show m - mp + (tot - m) = tot - mp by omega] at this
          exact this
        obtain ⟨ws, g1, g2, g3⟩ := ih j hj p mp pp (v :: r) n q1 (by omega) (by rw [List.length_cons]; omega) hc2 (by rw [List.getLast?_cons_cons]; exact hl)
        refine ⟨ws, g1, g2, ?_⟩
        rw [wh_yes hc0 (.inl ?_)]
        · exact g3
        · have ll : ((v :: r).reverse.map D.str).length < lim := by rw [List.length_map, List.length_reverse, List.length_cons, lim_eq]; omega
          have ap : mAppend (.loc s.length) [.str p] (s ++ [Cell.lst ((v :: r).reverse.map D.str)]) = .ok .non (s ++ [Cell.lst ((p :: v :: r).reverse.map D.str)]) := by
            rw [mAppend_eq, get_app0]
            simp only [List.getElem?_cons_zero]
            rw [if_pos ll, set_app0]
            simp
          have rt : recvTy (s ++ [Cell.lst ((v :: r).reverse.map D.str)]) (.loc s.length) = some "list" := by
            rw [recvTy_loc, get_app0]
            rfl
          have ix : dOp oIx (dDix (dVar 3) (dOp oIx (dVar 4) (dUn (fun i => -i) (dC (.int 1))))) (dC (.int 1)) [o0, some (.str a), o2, some (fD f), some (.loc s.length)] (s ++ [Cell.lst ((v :: r).reverse.map D.str)]) = .ok (.str p) (s ++ [Cell.lst ((v :: r).reverse.map D.str)]) := by
            have la' := la
            generalize s ++ [Cell.lst ((v :: r).reverse.map D.str)] = S at la'
            simp only [dOp_eq, dDix_eq, dVar_eq, List.getElem?_cons_succ, List.getElem?_cons_zero, bind_ok, dUn_eq, dC_eq, la']
            simp [oDix, fD, lk]
          unfold g_Feet_way_b1
          simp only [sDrop_eq, dMt_eq, dVar_eq, List.getElem?_cons_succ, List.getElem?_cons_zero, bind_ok, rt, if_true, aCons_eq, ix, aNil_eq, ap, out_ok]
theorem Fs.app {s r : Sto} (h : Fs F names W s) : Fs F names W (s ++ r) := by
  obtain ⟨Kn, ft, kn⟩ := h.ft
  exact ⟨Kn, ⟨app_at ft.o, app_at ft.d, fun i z hi => app_at (ft.l i z hi), app_at ft.k⟩, kn⟩
theorem p_way (hF : Fs F names W s) (hs : Sb s) (hN : NsOk names) (hG : GOk names W) {a b : Nm} (ha : a ∈ names) (hb : b ∈ names) :
    ∃ s', Fs F names W s' ∧ Ch F names.length s s' ∧ ((IsD (EW W) a b none ∧ f_Feet_way [.loc F, .str a, .str b] s = .ok .non s') ∨
      ∃ m ws, IsD (EW W) a b (some m) ∧ Way (EW W) a b ws m ∧ ws.length ≤ 1000 ∧ f_Feet_way [.loc F, .str a, .str b] s = .ok (.loc s'.length) (s' ++ [.lst (ws.map D.str)])) := by
  obtain ⟨Kn, ft, kn⟩ := hF.ft
  obtain ⟨s', f, h1, h2, h3, h4⟩ := p_led hF hs hN hG ha hb
  refine ⟨s', h1, h2, ?_⟩
  rcases h3.is (b := b) with ⟨c, i⟩ | ⟨m, p, hm, i⟩
  · left
    refine ⟨i, ?_⟩
    rw [if_neg c] at h4
    have key : g_Feet_way [some (.loc F), some (.str a), some (.str b), none, none] s = .rt .non s' := by
      unfold g_Feet_way
      refine seq_step (δ' := [some (.loc F), some (.str a), some (.str b), some .non, none]) (s' := s') (by simp [dMeth_eq, List.lookup, ft.o, h4]) ?_
      refine seq_ret ?_
      simp
    show finO s.length (g_Feet_way [some (.loc F), some (.str a), some (.str b), none, none] s) = _
    rw [key, fin_rt]
    exact cut_len h2.len
  · right
    obtain ⟨k, hk⟩ := List.getElem?_of_mem hm
    have fl : f.length ≤ 8 := by
      have := nd_len h3.inv.nd h3.sub
      have := hN.le
      have e : (keys f).length = f.length := by simp [keys]
      omega
    have kl := (List.getElem?_eq_some_iff.mp hk).1
    have c0 : Chn (EW W) [b] (m - m) := by
      rw [Int.sub_self]
      exact .one b
    obtain ⟨ws, w1, w2, w3⟩ := w_loop (s := s') hG h3 (b0 := b) (o0 := some (.loc F)) (o2 := some (.str b)) (tot := m) k b m p [] 64 hk (by omega) (by simp; omega) c0 rfl
    refine ⟨m, ws, i, w1, w2, ?_⟩
    rw [if_pos (keys_mem.mpr ⟨m, p, hm⟩)] at h4
    have nn : isNon (fD f) = false := rfl
    have key : g_Feet_way [some (.loc F), some (.str a), some (.str b), none, none] s = .rt (.loc s'.length) (s' ++ [Cell.lst (ws.map D.str)]) := by
      unfold g_Feet_way
      refine seq_step (δ' := [some (.loc F), some (.str a), some (.str b), some (fD f), none]) (s' := s') (by simp [dMeth_eq, List.lookup, ft.o, h4]) ?_
      refine seq_step (δ' := [some (.loc F), some (.str a), some (.str b), some (fD f), none]) (s' := s') (by simp [nn]) ?_
      refine seq_step (δ' := [some (.loc F), some (.str a), some (.str b), some (fD f), some (.loc s'.length)]) (s' := s' ++ [.lst [.str b]]) (by simp [lim_eq]) ?_
      refine seq_step (δ' := [some (.loc F), some (.str a), some (.str b), some (fD f), some (.loc s'.length)]) (s' := s' ++ [Cell.lst (ws.reverse.map D.str)]) w3 ?_
      refine seq_step (δ' := [some (.loc F), some (.str a), some (.str b), some (fD f), some (.loc s'.length)]) (s' := s' ++ [Cell.lst (ws.map D.str)]) ?_ ?_
      · have rt : recvTy (s' ++ [Cell.lst (ws.reverse.map D.str)]) (.loc s'.length) = some "list" := by
          rw [recvTy_loc, get_app0]
          rfl
        have rv : mReverse (.loc s'.length) [] (s' ++ [Cell.lst (ws.reverse.map D.str)]) = .ok .non (s' ++ [Cell.lst (ws.map D.str)]) := by
          unfold mReverse
          dsimp only
          rw [get_app0]
          simp only [List.getElem?_cons_zero]
          rw [set_app0]
          simp
        simp only [sDrop_eq, dMt_eq, dVar_eq, List.getElem?_cons_succ, List.getElem?_cons_zero, bind_ok, rt, if_true, aNil_eq, rv, out_ok]
      · rfl
    show finO s.length (g_Feet_way [some (.loc F), some (.str a), some (.str b), none, none] s) = _
    rw [key, fin_rt, ← h2.len]
    exact cut_loc
end
theorem walk_edge {names : List Nm} {W : List Wi3} {w : Wi3} (h : w ∈ W) : EW (W.map (nmw names)) (names.getD w.1 []) (names.getD w.2.1 []) w.2.2 := .inl (List.mem_map_of_mem (f := nmw names) h)
end Rb
namespace Rb
open PySem PySem.Spec L2 Mp
theorem zip_pr : ∀ (xs ys : List Nm), zipD (xs.map D.str) (ys.map D.str) = (xs.zip ys).map pr
  | [], bs => by simp [zipD]
  | r :: rs, [] => by simp [zipD]
  | r :: rs, b :: bs => by
    rw [List.map_cons, List.map_cons]
    show _ :: zipD _ _ = _
    rw [zip_pr rs bs]
    rfl
theorem GOk_of {names : List Nm} {W : List Wi3} (hN : NsOk names) (hW : WOk names.length W) (hl : W.length ≤ 12) : GOk names (W.map (nmw names)) := by
  refine ⟨fun u hu => ?_, by rw [List.length_map]; exact hl⟩
  obtain ⟨w, hw, rfl⟩ := List.mem_map.mp hu
  obtain ⟨r1, r2, r3, r4, _⟩ := hW.rg w hw
  exact ⟨(getD_at r1).2, (getD_at r2).2, fun e => r3 (getD_inj hN.nd r1 r2 e), r4⟩
/-- an edge is a walk, one way or the other -/
theorem edge_walk {names : List Nm} {W : List Wi3} {a b : Nm} {m : Int} (h : EW (W.map (nmw names)) a b m) : ∃ w ∈ W, w.2.2 = m ∧ ((names.getD w.1 [] = a ∧ names.getD w.2.1 [] = b) ∨ (names.getD w.1 [] = b ∧ names.getD w.2.1 [] = a)) := by
  rcases h with h | h
  · obtain ⟨w, hw, e⟩ := List.mem_map.mp h
    have e' : (names.getD w.1 [], names.getD w.2.1 [], w.2.2) = (a, b, m) := e
    injection e' with e1 e'
    injection e' with e2 e3
    exact ⟨w, hw, e3, .inl ⟨e1, e2⟩⟩
  · obtain ⟨w, hw, e⟩ := List.mem_map.mp h
    have e' : (names.getD w.1 [], names.getD w.2.1 [], w.2.2) = (b, a, m) := e
    injection e' with e1 e'
    injection e' with e2 e3
    exact ⟨w, hw, e3, .inr ⟨e1, e2⟩⟩
def qW (names : List Nm) (h t : Nm) (w : Wi3) : Bool := decide ((names.getD w.1 [], names.getD w.2.1 []) ∈ [(h, t), (t, h)])
theorem qW_one {names : List Nm} (hN : NsOk names) {W : List Wi3} (hW : WOk names.length W) {h t : Nm} {m : Int} (e : EW (W.map (nmw names)) h t m) : (W.filter (qW names h t)).map (·.2.2) = [m] := by
  obtain ⟨w, hw, wm, we⟩ := edge_walk e
  have wq : qW names h t w = true := by
    unfold qW
    rcases we with ⟨e1, e2⟩ | ⟨e1, e2⟩ <;> (rw [e1, e2]; simp)
  have wf : w ∈ W.filter (qW names h t) := List.mem_filter.mpr ⟨hw, wq⟩
  have pw := hW.pw.filter (qW names h t)
  have all : ∀ u ∈ W.filter (qW names h t), u ∈ W ∧ qW names h t u = true := fun u hu => List.mem_filter.mp hu
  have cl : ∀ u v, u ∈ W → v ∈ W → qW names h t u = true → qW names h t v = true → (u.1, u.2.1) = (v.1, v.2.1) ∨ (u.1, u.2.1) = (v.2.1, v.1) := by
    intro u v hu hv qu qv
    obtain ⟨u1, u2, _⟩ := hW.rg u hu
    obtain ⟨v1, v2, _⟩ := hW.rg v hv
    unfold qW at qu qv
    simp only [decide_eq_true_eq, List.mem_cons, List.not_mem_nil, or_false] at qu qv
    have inj : ∀ {i j : Nat}, i < names.length → j < names.length → names.getD i [] = names.getD j [] → i = j := fun a b c => getD_inj hN.nd a b c
    rcases qu with qu | qu <;> rcases qv with qv | qv <;> (injection qu with a1 a2; injection qv with b1 b2)
    · left; rw [inj u1 v1 (a1.trans b1.symm), inj u2 v2 (a2.trans b2.symm)]
    · right; rw [inj u1 v2 (a1.trans b2.symm), inj u2 v1 (a2.trans b1.symm)]
    · right; rw [inj u1 v2 (a1.trans b2.symm), inj u2 v1 (a2.trans b1.symm)]
    · left; rw [inj u1 v1 (a1.trans b1.symm), inj u2 v2 (a2.trans b2.symm)]
  generalize W.filter (qW names h t) = L at wf pw all
  cases L with
  | nil => cases wf
  | cons u L =>
    cases L with
    | nil =>
      rw [List.mem_singleton.mp wf] at wm
      simp [wm]
    | cons v L =>
      exfalso
      have p := (List.pairwise_cons.mp pw).1 v List.mem_cons_self
      obtain ⟨a1, a2⟩ := all u List.mem_cons_self
      obtain ⟨b1, b2⟩ := all v (List.mem_cons_of_mem _ List.mem_cons_self)
      rcases cl u v a1 b1 a2 b2 with q | q
      · exact p.1 q
      · exact p.2 q
section
variable {names : List Nm} {W : List Wi3} {s : Sto} {o0 o3 o4 o5 o9 o10 : Option D}
theorem wr_b1 (hN : NsOk names) (hW : WOk names.length W) (hl : W.length ≤ 12) {h t : Nm} {m sp : Int} (hh : NmOk h) (ht : NmOk t) (e : EW (W.map (nmw names)) h t m) :
    g__law_way_right_b1 [o0, some (.lst (names.map D.str)), some (.lst (W.map wI)), o3, o4, o5, some (.int sp), some (.str h), some (.str t), o9, none] s =
      .nx [o0, some (.lst (names.map D.str)), some (.lst (W.map wI)), o3, o4, o5, some (.int (sp + m)), some (.str h), some (.str t), some (.lst [.int m]), none] s := by
  have c := lcL_fil (s := s) (δ := [o0, some (.lst (names.map D.str)), some (.lst (W.map wI)), o3, o4, o5, some (.int sp), some (.str h), some (.str t), o9, none]) (t := tgN 10) (c := tst (dOp (oInX false) (dTup (aCons (dOp oIx (dVar 1) (dOp oIx (dVar 10) (dC (.int 0)))) (aCons (dOp oIx (dVar 1) (dOp oIx (dVar 10) (dC (.int 1)))) aNil))) (dTup (aCons (dTup (aCons (dVar 7) (aCons (dVar 8) aNil))) (aCons (dTup (aCons (dVar 8) (aCons (dVar 7) aNil))) aNil))))) (e := dOp oIx (dVar 10) (dC (.int 2)))
    (fun d => match d with | .tup [_, _, x] => x | _ => .non) (fun d => match d with | .tup [.int i, .int j, _] => decide ((names.getD i.toNat [], names.getD j.toNat []) ∈ [(h, t), (t, h)]) | _ => false) (W.map wI) [] (by rw [lim_eq]; simp; omega) (by
    intro d hd
    obtain ⟨w, hw, rfl⟩ := List.mem_map.mp hd
    obtain ⟨r1, r2, _⟩ := hW.rg w hw
    obtain ⟨a1, a2⟩ := getD_at r1
    obtain ⟨b1, b2⟩ := getD_at r2
    have i1 : (names.map D.str)[w.1]? = some (.str (names.getD w.1 [])) := by rw [List.getElem?_map, a1]; rfl
    have i2 : (names.map D.str)[w.2.1]? = some (.str (names.getD w.2.1 [])) := by rw [List.getElem?_map, b1]; rfl
    have nx := hN.nm _ a2
    have ny := hN.nm _ b2
    have q0 : oIx (wI w) (.int 0) s = .ok (.int w.1) s := by simp [wI]
    have q1 : oIx (wI w) (.int 1) s = .ok (.int w.2.1) s := by simp [wI]
    have q2 : oIx (wI w) (.int 2) s = .ok (.int w.2.2) s := by simp [wI]
    refine ⟨_, rfl, ?_, fun _ => ?_⟩
    · have k := oInX_ok (neg := false) (s := s) (x := pr (names.getD w.1 [], names.getD w.2.1 [])) (y := .tup [pr (h, t), pr (t, h)]) (ys := [(h, t), (t, h)].map pr) (dat_pr (n := 7) nx ny) (dats_pr (n := 62) (by
        intro p hp
        simp only [List.mem_cons, List.not_mem_nil, or_false] at hp
        rcases hp with rfl | rfl
        · exact ⟨hh, ht⟩
        · exact ⟨ht, hh⟩)) rfl
      rw [any_pr] at k
      have el : dTup (aCons (dOp oIx (dVar 1) (dOp oIx (dVar 10) (dC (.int 0)))) (aCons (dOp oIx (dVar 1) (dOp oIx (dVar 10) (dC (.int 1)))) aNil)) ([o0, some (.lst (names.map D.str)), some (.lst (W.map wI)), o3, o4, o5, some (.int sp), some (.str h), some (.str t), o9, none].set 10 (some (wI w))) s = .ok (pr (names.getD w.1 [], names.getD w.2.1 [])) s := by
        generalize names.map D.str = L at i1 i2
        simp only [dTup_eq, aCons_eq, aNil_eq, dOp_eq, dVar_eq, dC_eq, List.set, List.getElem?_cons_succ, List.getElem?_cons_zero, bind_ok, q0, q1, oIx_lst, atI_natc, i1, i2]
        rfl
      have er : dTup (aCons (dTup (aCons (dVar 7) (aCons (dVar 8) aNil))) (aCons (dTup (aCons (dVar 8) (aCons (dVar 7) aNil))) aNil)) ([o0, some (.lst (names.map D.str)), some (.lst (W.map wI)), o3, o4, o5, some (.int sp), some (.str h), some (.str t), o9, none].set 10 (some (wI w))) s = .ok (.tup [pr (h, t), pr (t, h)]) s := by
        simp [lim_eq, pr]
      rw [tst_eq, dOp_eq, el, bind_ok, er, bind_ok, k]
      simp [wI]
    · simp only [dOp_eq, dVar_eq, dC_eq, List.set, List.getElem?_cons_succ, List.getElem?_cons_zero, bind_ok, q2]
      rfl)
  have ef : (W.map wI).filter (fun d => match d with | .tup [.int i, .int j, _] => decide ((names.getD i.toNat [], names.getD j.toNat []) ∈ [(h, t), (t, h)]) | _ => false) = (W.filter (qW names h t)).map wI := by
    rw [List.filter_map]
    congr 1
  rw [ef, List.nil_append, List.map_map] at c
  have em : (W.filter (qW names h t)).map ((fun d => match d with | .tup [_, _, x] => x | _ => .non) ∘ wI) = ((W.filter (qW names h t)).map (·.2.2)).map D.int := by
    rw [List.map_map]
    rfl
  rw [em, qW_one hN hW e] at c
  unfold g__law_way_right_b1
  refine seq_step (δ' := [o0, some (.lst (names.map D.str)), some (.lst (W.map wI)), o3, o4, o5, some (.int sp), some (.str h), some (.str t), some (.lst [.int m]), none]) (s' := s) (by
    simp only [sSet_eq, dLc_eq, itAny_eq, dVar_eq, List.getElem?_cons_succ, List.getElem?_cons_zero, bind_ok, wipeE_cons, wipeE_nil, List.set]
    rw [c]
    rfl) ?_
  have q : oEqG false (.lst [.int m]) (.lst []) s = .ok (.bl false) s := by
    exact oEq_ll (b := false) (s := s) (xs := [.int m]) (ys := []) (datDs_ints [m]) datDs_nil
  simp [lim_eq, q]
theorem wr_loop (hN : NsOk names) (hW : WOk names.length W) (hl : W.length ≤ 12) {m : Int} {ws : List Nm} (hc : Chn (EW (W.map (nmw names))) ws m) : ∀ (sp : Int) (o7 o8 o9 : Option D), ∃ p7 p8 p9,
    forL (tgT [tgN 7, tgN 8]) g__law_way_right_b1 ((ws.zip (ws.drop 1)).map pr) [o0, some (.lst (names.map D.str)), some (.lst (W.map wI)), o3, o4, o5, some (.int sp), o7, o8, o9, none] s =
      .nx [o0, some (.lst (names.map D.str)), some (.lst (W.map wI)), o3, o4, o5, some (.int (sp + m)), p7, p8, p9, none] s := by
  have hG := GOk_of hN hW hl
  induction hc with
  | one a => 
    intro sp o7 o8 o9
    exact ⟨o7, o8, o9, by simp⟩
  | @cons a b r w n e c ih =>
    intro sp o7 o8 o9
    obtain ⟨x1, x2⟩ := hG.ends e
    obtain ⟨p7, p8, p9, g⟩ := ih (sp + w) (some (.str a)) (some (.str b)) (some (.lst [.int w]))
    refine ⟨p7, p8, p9, ?_⟩
    rw [show sp + w + n = sp + (w + n) by omega] at g
    show forL _ _ (pr (a, b) :: ((b :: r).zip r).map pr) _ _ = _
    rw [forL_next (δ1 := [o0, some (.lst (names.map D.str)), some (.lst (W.map wI)), o3, o4, o5, some (.int sp), some (.str a), some (.str b), o9, none]) rfl (wr_b1 hN hW hl (hN.nm _ x1) (hN.nm _ x2) e)]
    exact g
theorem wr_none : f__law_way_right [.non, .lst (names.map D.str), .lst (W.map wI), .int (i : Nat), .int (j : Nat), .non] s = .ok (.bl true) s := by
  simp [f__law_way_right, mkF, g__law_way_right]
theorem wr_cell (hN : NsOk names) (hW : WOk names.length W) (hl : W.length ≤ 12) {i j : Nat} {a b : Nm} (hi : names[i]? = some a) (hj : names[j]? = some b) {ws : List Nm} {m : Int} (w : Way (EW (W.map (nmw names))) a b ws m) (wl : ws.length ≤ 1000) {n : Nat} (hc : s[n]? = some (.lst (ws.map D.str))) :
    f__law_way_right [.loc n, .lst (names.map D.str), .lst (W.map wI), .int (i : Nat), .int (j : Nat), .int m] s = .ok (.bl true) s := by
  obtain ⟨x, r, rfl⟩ : ∃ x r, ws = x :: r := by
    cases ws with
    | nil => have := w.hd; cases this
    | cons x r => exact ⟨x, r, rfl⟩
  have hx : x = a := by have := w.hd; simpa using this
  obtain ⟨y, z, hz⟩ : ∃ (y : List Nm) (z : Nm), x :: r = y ++ [z] := ⟨(x :: r).dropLast, (x :: r).getLast (by simp), (List.dropLast_concat_getLast (by simp)).symm⟩
  have hzb : z = b := by have := w.la; rw [hz] at this; simpa using this
  have na : NmOk a := hN.nm _ (List.mem_of_getElem? hi)
  have i1 : (names.map D.str)[i]? = some (.str a) := by rw [List.getElem?_map, hi]; rfl
  have i2 : (names.map D.str)[j]? = some (.str b) := by rw [List.getElem?_map, hj]; rfl
  have l0 : atI ((x :: r).map D.str) 0 = some (.str a) := by rw [hx]; exact atI_cons0
  have l1 : atI ((x :: r).map D.str) (-1) = some (.str b) := by
    rw [hz, List.map_append, hzb]
    exact at_last
  have isL : bIsO parT parA csT [.loc n, .ty "list"] s = .ok (.bl true) s := iso_ty (t := "list") (by unfold tyOf; simp [hc]) kit_ll
  have all_ok : ∀ u ∈ x :: r, NmOk u := by
    have hG := GOk_of hN hW hl
    have : ∀ {vs : List Nm} {k : Int}, Chn (EW (W.map (nmw names))) vs k → ∀ v, vs.head? = some v → NmOk v → ∀ u ∈ vs, NmOk u := by
      intro vs k c
      induction c with
      | one a => intro v h hv u hu; simp at h; subst h; rw [List.mem_singleton.mp hu]; exact hv
      | @cons a b r w n e c ih =>
        intro v h hv u hu
        simp at h
        subst h
        rcases List.mem_cons.mp hu with rfl | hu
        · exact hv
        · exact ih b rfl (hN.nm _ (hG.ends e).2) u hu
    exact this w.ch x rfl (by rw [hx]; exact na)
  have ne : oEqG false (.loc n) (.lst []) s = .ok (.bl false) s := by
    rw [oEq_loc (y := .lst []) hc (datDs_strs fun u hu => okS_nm (all_ok u hu)) (by rfl)]
    rfl
  obtain ⟨p7, p8, p9, lp⟩ := wr_loop (s := s.set n .dead) (o0 := some (.loc n)) (o3 := some (.int (i : Nat))) (o4 := some (.int (j : Nat))) (o5 := some (.int m)) hN hW hl w.ch 0 none none none
  rw [Int.zero_add] at lp
  have cd := cut_drop (xs := (x :: r).map D.str) (i := 1) (by simp)
  have zz := zip_pr (x :: r) ((x :: r).drop 1)
  rw [← zz, List.map_drop] at lp
  have key : g__law_way_right [some (.loc n), some (.lst (names.map D.str)), some (.lst (W.map wI)), some (.int (i : Nat)), some (.int (j : Nat)), some (.int m), none, none, none, none, none] s = .rt (.bl true) s := by
    generalize (x :: r).map D.str = V at l0 l1 lp cd hc
    unfold g__law_way_right
    refine seq_step (δ' := [some (.loc n), some (.lst (names.map D.str)), some (.lst (W.map wI)), some (.int (i : Nat)), some (.int (j : Nat)), some (.int m), none, none, none, none, none]) (s' := s) (by simp) ?_
    refine seq_step (δ' := [some (.loc n), some (.lst (names.map D.str)), some (.lst (W.map wI)), some (.int (i : Nat)), some (.int (j : Nat)), some (.int m), none, none, none, none, none]) (s' := s) (by
      generalize names.map D.str = L at i1 i2
      have t : (tOrD (tNotD (tst (dBi (bIsO parT parA csT) (aCons (dVar 0) (aCons (dC (.ty "list")) aNil))))) (tOrD (tst (dOp oEq (dVar 0) (dLst aNil))) (tOrD (tst (dOp oNe (dOp oIx (dVar 0) (dC (.int 0))) (dOp oIx (dVar 1) (dVar 3)))) (tst (dOp oNe (dOp oIx (dVar 0) (dUn (fun i => -i) (dC (.int 1)))) (dOp oIx (dVar 1) (dVar 4))))))) [some (.loc n), some (.lst L), some (.lst (W.map wI)), some (.int (i : Nat)), some (.int (j : Nat)), some (.int m), none, none, none, none, none] s = .ok false s := by
        have e0 : oIx (.loc n) (.int 0) s = .ok (.str a) s := by
          rw [oIx_loc, lqOf_loc, hc]
          dsimp only [Option.or]
          rw [l0]
        have e1 : oIx (.loc n) (.int (-1)) s = .ok (.str b) s := by
          rw [oIx_loc, lqOf_loc, hc]
          dsimp only [Option.or]
          rw [l1]
        have e2 : oIx (.lst L) (.int (i : Nat)) s = .ok (.str a) s := by rw [oIx_lst, atI_natc, i1]
        have e3 : oIx (.lst L) (.int (j : Nat)) s = .ok (.str b) s := by rw [oIx_lst, atI_natc, i2]
        simp only [tOr_eq, tNot_eq, tst_eq, dBi_eq, aCons_eq, aNil_eq, dVar_eq, dC_eq, dOp_eq, dUn_eq, dLst_eq, List.getElem?_cons_succ, List.getElem?_cons_zero, bind_ok, isL, e0, e1, e2, e3, List.length_nil, Nat.zero_le, if_true, ne, Bool.not_true, Bool.false_eq_true, if_false, oEq_str]
        simp
      rw [sIf_eq, t]
      rfl) ?_
    refine seq_step (δ' := [some (.loc n), some (.lst (names.map D.str)), some (.lst (W.map wI)), some (.int (i : Nat)), some (.int (j : Nat)), some (.int m), some (.int 0), none, none, none, none]) (s' := s) (by simp) ?_
    refine seq_step (δ' := [some (.loc n), some (.lst (names.map D.str)), some (.lst (W.map wI)), some (.int (i : Nat)), some (.int (j : Nat)), some (.int m), some (.int m), p7, p8, p9, none]) (s' := s) (by
      have ag : aCons (dVar 0) (aCons (dSl (dVar 0) (pSome (dC (.int 1))) pNone) aNil) [some (.loc n), some (.lst (names.map D.str)), some (.lst (W.map wI)), some (.int (i : Nat)), some (.int (j : Nat)), some (.int m), some (.int 0), none, none, none, none] s = .ok [.loc n, .lst (V.drop 1)] s := by
        have sl : oSl (.loc n) (some 1) none s = .ok (.lst (V.drop 1)) s := by
          unfold oSl
          dsimp only
          rw [lqOf_loc, hc]
          show Res.ok (D.lst (cutL V (some ((1 : Nat) : Int)) none)) s = _
          rw [cd]
        simp only [aCons_eq, aNil_eq, dSl_eq, pSome_eq, pNone_eq, dC_eq, dVar_eq, List.getElem?_cons_zero, bind_ok, sl]
      rw [sForZ_eq, ag, out_ok, zRun_loc hc, lp]
      have := back_nx (r := []) (δ := [some (.loc n), some (.lst (names.map D.str)), some (.lst (W.map wI)), some (.int (i : Nat)), some (.int (j : Nat)), some (.int m), some (.int m), p7, p8, p9, none]) hc
      rw [List.append_nil, List.append_nil] at this
      exact this) ?_
    simp
  show finO s.length (g__law_way_right [some (.loc n), some (.lst (names.map D.str)), some (.lst (W.map wI)), some (.int (i : Nat)), some (.int (j : Nat)), some (.int m), none, none, none, none, none] s) = _
  rw [key]
  simp
end
end Rb
namespace Rb
open PySem PySem.Spec L2 Mp
/-! ### the law's table -/
abbrev Row := List (Option Int)
def rel (m : Int) (a b : Nat) (os : Row) : Row := match os[a]? with
  | some (some x) => match os[b]? with
    | some (some y) => if x + m < y then os.set b (some (x + m)) else os
    | some none => os.set b (some (x + m))
    | none => os
  | _ => os
def relW (os : Row) (w : Wi3) : Row := rel w.2.2 w.2.1 w.1 (rel w.2.2 w.1 w.2.1 os)
def trn (W : List Wi3) (os : Row) : Row := W.foldl relW os
def trns (W : List Wi3) : Nat → Row → Row
  | 0, os => os
  | k + 1, os => trns W k (trn W os)
theorem rel_len {m : Int} {a b : Nat} {os : Row} : (rel m a b os).length = os.length := by
  unfold rel
  split
  · split
    · split <;> simp
    · simp
    · rfl
  · rfl
theorem relW_len {os : Row} {w : Wi3} : (relW os w).length = os.length := by
  unfold relW
  rw [rel_len, rel_len]
theorem trn_len : ∀ {W : List Wi3} {os : Row}, (trn W os).length = os.length
  | [], _ => rfl
  | w :: W, os => by
    show (trn W (relW os w)).length = _
    rw [trn_len, relW_len]
theorem trns_len {W : List Wi3} : ∀ {k : Nat} {os : Row}, (trns W k os).length = os.length
  | 0, _ => rfl
  | k + 1, os => by
    show (trns W k (trn W os)).length = _
    rw [trns_len, trn_len]
def Le (os os' : Row) : Prop := ∀ (v : Nat) (y : Int), os[v]? = some (some y) → ∃ y', os'[v]? = some (some y') ∧ y' ≤ y
theorem Le.refl {os : Row} : Le os os := fun v y h => ⟨y, h, Int.le_refl _⟩
theorem Le.trans {a b c : Row} (h : Le a b) (k : Le b c) : Le a c := fun v y e => by
  obtain ⟨y1, h1, h2⟩ := h v y e
  obtain ⟨y2, h3, h4⟩ := k v y1 h1
  exact ⟨y2, h3, by omega⟩
theorem rel_le {m : Int} {a b : Nat} {os : Row} : Le os (rel m a b os) := by
  unfold rel
  split
  · rename_i x hx
    split
    · rename_i y hy
      split
      · rename_i hlt
        intro v z hz
        by_cases e : b = v
        · subst e
          rw [hy] at hz
          cases hz
          exact ⟨x + m, List.getElem?_set_self (List.getElem?_eq_some_iff.mp hy).1, by omega⟩
        · exact ⟨z, by rw [List.getElem?_set_ne e]; exact hz, Int.le_refl _⟩
      · exact Le.refl
    · rename_i hy
      intro v z hz
      by_cases e : b = v
      · subst e
        rw [hy] at hz
        cases hz
      · exact ⟨z, by rw [List.getElem?_set_ne e]; exact hz, Int.le_refl _⟩
    · exact Le.refl
  · exact Le.refl
theorem rel_edge {m : Int} {a b : Nat} {os : Row} {x : Int} (ha : os[a]? = some (some x)) (hb : b < os.length) : ∃ y, (rel m a b os)[b]? = some (some y) ∧ y ≤ x + m := by
  unfold rel
  rw [ha]
  dsimp only
  split
  · rename_i y hy
    split
    · exact ⟨x + m, List.getElem?_set_self hb, Int.le_refl _⟩
    · exact ⟨y, hy, by omega⟩
  · exact ⟨x + m, List.getElem?_set_self hb, Int.le_refl _⟩
  · rename_i hn
    rw [List.getElem?_eq_none_iff] at hn
    omega
theorem relW_le {os : Row} {w : Wi3} : Le os (relW os w) := rel_le.trans rel_le
theorem trn_le : ∀ {W : List Wi3} {os : Row}, Le os (trn W os)
  | [], _ => Le.refl
  | w :: W, os => relW_le.trans (trn_le (W := W) (os := relW os w))
theorem trn_edge : ∀ {W : List Wi3} {os : Row} {w : Wi3}, w ∈ W → w.1 < os.length → w.2.1 < os.length →
    (∀ x, os[w.1]? = some (some x) → ∃ y, (trn W os)[w.2.1]? = some (some y) ∧ y ≤ x + w.2.2) ∧ (∀ x, os[w.2.1]? = some (some x) → ∃ y, (trn W os)[w.1]? = some (some y) ∧ y ≤ x + w.2.2)
  | [], os, w, h, _, _ => by cases h
  | u :: W, os, w, h, h1, h2 => by
    rcases List.mem_cons.mp h with rfl | h
    · constructor
      · intro x hx
        obtain ⟨y, e1, e2⟩ := rel_edge (m := w.2.2) (b := w.2.1) hx h2
        obtain ⟨y1, e3, e4⟩ := (rel_le (m := w.2.2) (a := w.2.1) (b := w.1)).trans (trn_le (W := W)) _ _ e1
        exact ⟨y1, e3, by omega⟩
      · intro x hx
        obtain ⟨x1, e1, e2⟩ := rel_le (m := w.2.2) (a := w.1) (b := w.2.1) _ _ hx
        obtain ⟨y, e3, e4⟩ := rel_edge (m := w.2.2) (b := w.1) e1 (by rw [rel_len]; exact h1)
        obtain ⟨y1, e5, e6⟩ := trn_le (W := W) _ _ e3
        exact ⟨y1, e5, by omega⟩
    · obtain ⟨i1, i2⟩ := trn_edge (W := W) (os := relW os u) h (by rw [relW_len]; exact h1) (by rw [relW_len]; exact h2)
      constructor
      · intro x hx
        obtain ⟨x1, e1, e2⟩ := relW_le (w := u) _ _ hx
        obtain ⟨y, e3, e4⟩ := i1 x1 e1
        exact ⟨y, e3, by omega⟩
      · intro x hx
        obtain ⟨x1, e1, e2⟩ := relW_le (w := u) _ _ hx
        obtain ⟨y, e3, e4⟩ := i2 x1 e1
        exact ⟨y, e3, by omega⟩
/-- each number is one of a way -/
def Snd (E : Ed) (names : List Nm) (a : Nm) (os : Row) : Prop := ∀ (v : Nat) (y : Int), os[v]? = some (some y) → Path E a (names.getD v []) y
theorem rel_snd {E : Ed} {names : List Nm} {a0 : Nm} {m : Int} {a b : Nat} {os : Row} (e : E (names.getD a []) (names.getD b []) m) (h : Snd E names a0 os) : Snd E names a0 (rel m a b os) := by
  have set_ok : ∀ x, os[a]? = some (some x) → Snd E names a0 (os.set b (some (x + m))) := fun x hx v y hy => by
    by_cases q : b = v
    · subst q
      have hl : b < os.length := by
        have := (List.getElem?_eq_some_iff.mp hy).1
        rw [List.length_set] at this
        exact this
      rw [List.getElem?_set_self hl] at hy
      cases hy
      exact (h a x hx).snoc e
    · rw [List.getElem?_set_ne q] at hy
      exact h v y hy
  unfold rel
  split
  · rename_i x hx
    split
    · split
      · exact set_ok x hx
      · exact h
    · exact set_ok x hx
    · exact h
  · exact h
theorem trn_snd {names : List Nm} {a0 : Nm} {W0 : List Wi3} : ∀ {W : List Wi3} {os : Row}, (∀ w ∈ W, w ∈ W0) → Snd (EW (W0.map (nmw names))) names a0 os → Snd (EW (W0.map (nmw names))) names a0 (trn W os)
  | [], _, _, h => h
  | w :: W, os, hw, h => by
    have e := walk_edge (names := names) (hw w List.mem_cons_self)
    exact trn_snd (W := W) (os := relW os w) (fun u hu => hw u (List.mem_cons_of_mem _ hu)) (rel_snd (EW.symm _ _ _ e) (rel_snd e h))
theorem trns_snd {names : List Nm} {a0 : Nm} {W : List Wi3} : ∀ {k : Nat} {os : Row}, Snd (EW (W.map (nmw names))) names a0 os → Snd (EW (W.map (nmw names))) names a0 (trns W k os)
  | 0, _, h => h
  | k + 1, os, h => trns_snd (k := k) (trn_snd (fun _ h => h) h)
inductive PathN (E : Ed) (a : Nm) : Nm → Int → Nat → Prop
  | nil : PathN E a a 0 0
  | snoc {b c : Nm} {m n : Int} {k : Nat} : PathN E a b m k → E b c n → PathN E a c (m + n) (k + 1)
theorem sou_n {E : Ed} {a : Nm} {f : Fd} (T : Tree E a f) : ∀ (i : Nat) (v : Nm) (m : Int) (p : Nm), f[i]? = some (v, m, p) → ∃ k, k ≤ i ∧ PathN E a v m k := by
  intro i
  induction i using Nat.strongRecOn with
  | _ i ih =>
    intro v m p hi
    rcases T i v m p hi with ⟨rfl, rfl⟩ | ⟨j, hj, mp, pp, q1, q2⟩
    · exact ⟨0, Nat.zero_le _, .nil⟩
    · obtain ⟨k, h1, h2⟩ := ih j hj p mp pp q1
      refine ⟨k + 1, by omega, ?_⟩
      have := h2.snoc q2
      rw [show mp + (m - mp) = m by omega] at this
      exact this
/-- ways of no more than t edges are told -/
def Cpl (E : Ed) (names : List Nm) (a : Nm) (t : Nat) (os : Row) : Prop := ∀ (v : Nm) (m : Int) (k : Nat), k ≤ t → PathN E a v m k → ∀ (i : Nat), names[i]? = some v → ∃ y : Int, os[i]? = some (some y) ∧ y ≤ m
theorem trn_cpl {names : List Nm} (hN : NsOk names) {W : List Wi3} (hW : WOk names.length W) (hl : W.length ≤ 12) {a : Nm} {t : Nat} {os : Row} (ol : os.length = names.length) (h : Cpl (EW (W.map (nmw names))) names a t os) : Cpl (EW (W.map (nmw names))) names a (t + 1) (trn W os) := by
  intro v m k hk pth i hi
  cases pth with
  | nil =>
    obtain ⟨y, h1, h2⟩ := h a 0 0 (Nat.zero_le _) .nil i hi
    obtain ⟨y', h3, h4⟩ := trn_le (W := W) _ _ h1
    exact ⟨y', h3, by omega⟩
  | @snoc b _ m n k p e =>
    obtain ⟨w, hw, wm, we⟩ := edge_walk e
    obtain ⟨r1, r2, _⟩ := hW.rg w hw
    obtain ⟨e1, e2⟩ := trn_edge (os := os) hw (by omega) (by omega)
    have il := (List.getElem?_eq_some_iff.mp hi).1
    have pe : names.getD i [] = v := by
      have := (getD_at il).1
      rw [hi] at this
      exact (Option.some.inj this).symm
    rcases we with ⟨q1, q2⟩ | ⟨q1, q2⟩
    · have wi : w.2.1 = i := getD_inj hN.nd r2 il (by rw [q2, pe])
      obtain ⟨x, h1, h2⟩ := h b m k (by omega) p w.1 (by rw [← q1]; exact (getD_at r1).1)
      obtain ⟨y, h3, h4⟩ := e1 x h1
      rw [wi, wm] at *
      exact ⟨y, h3, by omega⟩
    · have wi : w.1 = i := getD_inj hN.nd r1 il (by rw [q1, pe])
      obtain ⟨x, h1, h2⟩ := h b m k (by omega) p w.2.1 (by rw [← q2]; exact (getD_at r2).1)
      obtain ⟨y, h3, h4⟩ := e2 x h1
      rw [wi, wm] at *
      exact ⟨y, h3, by omega⟩
theorem trns_cpl {names : List Nm} (hN : NsOk names) {W : List Wi3} (hW : WOk names.length W) (hl : W.length ≤ 12) {a : Nm} : ∀ {k t : Nat} {os : Row}, os.length = names.length → Cpl (EW (W.map (nmw names))) names a t os → Cpl (EW (W.map (nmw names))) names a (t + k) (trns W k os)
  | 0, t, os, _, h => h
  | k + 1, t, os, ol, h => by
    have := trns_cpl hN hW hl (k := k) (by rw [trn_len]; exact ol) (trn_cpl hN hW hl ol h)
    rw [show t + 1 + k = t + (k + 1) by omega] at this
    exact this
/-- the row of place i, before and behind all turns -/
def row0 (n i : Nat) : Row := (List.replicate n none).set i (some 0)
def rowF (n : Nat) (W : List Wi3) (i : Nat) : Row := trns W n (row0 n i)
theorem rowF_len {n : Nat} {W : List Wi3} {i : Nat} : (rowF n W i).length = n := by
  unfold rowF row0
  rw [trns_len, List.length_set, List.length_replicate]
theorem rowF_is {names : List Nm} (hN : NsOk names) {W : List Wi3} (hW : WOk names.length W) (hl : W.length ≤ 12) {i j : Nat} {a b : Nm} (hi : names[i]? = some a) (hj : names[j]? = some b) {f : Fd} (so : Sou names (W.map (nmw names)) a f) : ∃ o, (rowF names.length W i)[j]? = some o ∧ IsD (EW (W.map (nmw names))) a b o := by
  have il := (List.getElem?_eq_some_iff.mp hi).1
  have jl := (List.getElem?_eq_some_iff.mp hj).1
  have pa : names.getD i [] = a := by
    have := (getD_at il).1
    rw [hi] at this
    exact (Option.some.inj this).symm
  have pb : names.getD j [] = b := by
    have := (getD_at jl).1
    rw [hj] at this
    exact (Option.some.inj this).symm
  have s0 : Snd (EW (W.map (nmw names))) names a (row0 names.length i) := by
    intro v y hv
    unfold row0 at hv
    by_cases e : i = v
    · subst e
      rw [List.getElem?_set_self (by rw [List.length_replicate]; exact il)] at hv
      cases hv
      rw [pa]
      exact .nil a
    · rw [List.getElem?_set_ne e, List.getElem?_replicate] at hv
      split at hv <;> cases hv
  have c0 : Cpl (EW (W.map (nmw names))) names a 0 (row0 names.length i) := by
    intro v m k hk p q hq
    have k0 : k = 0 := by omega
    subst k0
    cases p
    have e : q = i := nd_at hN.nd hq hi
    subst e
    exact ⟨0, by unfold row0; rw [List.getElem?_set_self (by rw [List.length_replicate]; exact il)], Int.le_refl _⟩
  have sF := trns_snd (k := names.length) s0
  have cF := trns_cpl hN hW hl (k := names.length) (by unfold row0; rw [List.length_set, List.length_replicate]) c0
  rw [Nat.zero_add] at cF
  have jr : j < (rowF names.length W i).length := by rw [rowF_len]; exact jl
  refine ⟨(rowF names.length W i)[j], List.getElem?_eq_getElem jr, ?_⟩
  have hr : (rowF names.length W i)[j]? = some (rowF names.length W i)[j] := List.getElem?_eq_getElem jr
  generalize (rowF names.length W i)[j] = o at hr
  rcases so.is (b := b) with ⟨c, d⟩ | ⟨m, p, hm, d⟩
  · cases o with
    | none => exact d
    | some y =>
      have := sF j y hr
      rw [pb] at this
      exact absurd this (d y)
  · obtain ⟨q, hq⟩ := List.getElem?_of_mem hm
    obtain ⟨k, h1, h2⟩ := sou_n so.tr q b m p hq
    have ql := (List.getElem?_eq_some_iff.mp hq).1
    have fl : f.length ≤ names.length := by
      have := nd_len so.inv.nd so.sub
      have e : (keys f).length = f.length := by simp [keys]
      omega
    obtain ⟨y, h3, h4⟩ := cF b m k (by omega) h2 j hj
    have h3' : (rowF names.length W i)[j]? = some (some y) := h3
    rw [hr] at h3'
    cases h3'
    have pth := sF j y hr
    rw [pb] at pth
    have := d.2 y pth
    have : y = m := by omega
    rw [this]
    exact d
end Rb
namespace Rb
open PySem PySem.Spec L2 Mp
def lcs : Nat → Nat → List D
  | _, 0 => []
  | b, k + 1 => .loc b :: lcs (b + 1) k
theorem lcs_len : ∀ {b k : Nat}, (lcs b k).length = k
  | _, 0 => rfl
  | b, k + 1 => by
    show (lcs (b + 1) k).length + 1 = k + 1
    rw [lcs_len]
theorem lcs_at : ∀ {b k i : Nat}, i < k → (lcs b k)[i]? = some (.loc (b + i))
  | b, k + 1, 0, _ => rfl
  | b, k + 1, i + 1, h => by
    show (lcs (b + 1) k)[i]? = _
    rw [lcs_at (by omega), show b + 1 + i = b + (i + 1) by omega]
theorem rep_flat {d : D} : ∀ k : Nat, (List.replicate k [d]).flatten = List.replicate k d
  | 0 => rfl
  | k + 1 => by
    rw [List.replicate_succ, List.flatten_cons, rep_flat k]
    rfl
theorem tb_lc {n : Nat} (hn : n ≤ 8) {δ : Mp.Env} (h0 : ∀ d, (δ.set 3 d)[0]? = some (some (.int (n : Int)))) : ∀ (js : List Int) (acc : List D) (S : Sto), acc.length + js.length ≤ 1000 →
    lcL (tgN 3) cYes (dOp oMulC (dLst (aCons (dC .non) aNil)) (dVar 0)) δ (js.map D.int) acc S = .ok (.lst (acc ++ lcs S.length js.length)) (S ++ List.replicate js.length (.lst (List.replicate n .non)))
  | [], acc, S, _ => by simp [lcs]
  | j :: js, acc, S, hl => by
    rw [List.length_cons] at hl
    have ih := tb_lc hn h0 js (acc ++ [.loc S.length]) (S ++ [.lst (List.replicate n .non)]) (by simp; omega)
    have el : dOp oMulC (dLst (aCons (dC .non) aNil)) (dVar 0) (δ.set 3 (some (.int j))) S = .ok (.loc S.length) (S ++ [.lst (List.replicate n .non)]) := by
      have mc : oMulC (.lst [.non]) (.int (n : Int)) S = .ok (.loc S.length) (S ++ [.lst (List.replicate n .non)]) := by
        unfold oMulC
        simp only [lsOf_lst]
        rw [if_pos (by rw [lim_eq, Int.toNat_natCast]; simp; omega), Int.toNat_natCast, rep_flat]
      rw [dOp_eq, dLst_eq]
      simp only [aCons_eq, aNil_eq, dC_eq, bind_ok, List.length_cons, List.length_nil]
      rw [if_pos (by decide)]
      simp only [bind_ok, dVar_eq, h0, mc]
    have hl2 : acc.length < lim := by rw [lim_eq]; omega
    rw [List.map_cons, lcL_cons, tgN_eq]
    dsimp only [cYes_eq]
    rw [el]
    dsimp only
    rw [if_pos hl2]
    have e : S ++ [Cell.lst (List.replicate n .non)] ++ List.replicate js.length (Cell.lst (List.replicate n .non)) = S ++ List.replicate (js.length + 1) (Cell.lst (List.replicate n .non)) := by
      rw [List.append_assoc, List.replicate_succ]
      rfl
    rw [List.length_append, List.length_singleton] at ih
    rw [ih, e]
    simp [lcs]
section
variable {S : Sto} {c i : Nat} {T : List D} {o0 o1 o4 o5 o6 o7 o8 o9 o10 : Option D}
theorem tb_b1 (hc : c < S.length) (hT : T[i]? = some (.loc c)) {os : Row} {a b : Nat} {m : Int} (ha : a < os.length) (hb : b < os.length) :
    ∃ p10, g__law_table_b1 [o0, o1, some (.lst T), some (.int (i : Int)), o4, o5, o6, some (.int m), some (.int (a : Int)), some (.int (b : Int)), o10] (S.set c (.lst (os.map oD))) =
      .nx [o0, o1, some (.lst T), some (.int (i : Int)), o4, o5, o6, some (.int m), some (.int (a : Int)), some (.int (b : Int)), p10] (S.set c (.lst ((rel m a b os).map oD))) := by
  have gc : (S.set c (.lst (os.map oD)))[c]? = some (.lst (os.map oD)) := List.getElem?_set_self hc
  have st : ∀ d : Int, setAt (.loc c) (.int (b : Int)) (.int d) (S.set c (.lst (os.map oD))) = some (S.set c (.lst ((os.set b (some d)).map oD))) := fun d => by
    rw [setAt_loc, gc]
    have ix : ixN (os.map oD).length (b : Int) = some b := by
      unfold ixN
      simp [hb]
    simp only [ix]
    rw [List.set_set, List.map_set]
    rfl
  obtain ⟨oa, hoa⟩ : ∃ o, os[a]? = some o := ⟨_, List.getElem?_eq_getElem ha⟩
  obtain ⟨ob, hob⟩ : ∃ o, os[b]? = some o := ⟨_, List.getElem?_eq_getElem hb⟩
  generalize hX : S.set c (.lst (os.map oD)) = X at gc st
  cases oa with
  | none =>
    refine ⟨o10, ?_⟩
    have er : rel m a b os = os := by unfold rel; rw [hoa]
    rw [er, hX]
    simp [g__law_table_b1, hT, gc, hoa, oD]
  | some x =>
    refine ⟨some (.int (x + m)), ?_⟩
    cases ob with
    | none =>
      have er : rel m a b os = os.set b (some (x + m)) := by unfold rel; rw [hoa, hob]
      rw [er]
      simp [g__law_table_b1, hT, gc, hoa, hob, oD, st, -setAt_loc]
    | some y =>
      by_cases h : x + m < y
      · have er : rel m a b os = os.set b (some (x + m)) := by unfold rel; rw [hoa, hob]; dsimp only; rw [if_pos h]
        rw [er]
        simp [g__law_table_b1, hT, gc, hoa, hob, oD, st, h, -setAt_loc]
      · have er : rel m a b os = os := by unfold rel; rw [hoa, hob]; dsimp only; rw [if_neg h]
        rw [er, hX]
        simp [g__law_table_b1, hT, gc, hoa, hob, oD, h]
theorem tb_b2 (hc : c < S.length) (hT : T[i]? = some (.loc c)) {os : Row} {w : Wi3} (ha : w.1 < os.length) (hb : w.2.1 < os.length) :
    ∃ p8 p9 p10, g__law_table_b2 [o0, o1, some (.lst T), some (.int (i : Int)), o4, some (.int w.1), some (.int w.2.1), some (.int w.2.2), o8, o9, o10] (S.set c (.lst (os.map oD))) =
      .nx [o0, o1, some (.lst T), some (.int (i : Int)), o4, some (.int w.1), some (.int w.2.1), some (.int w.2.2), p8, p9, p10] (S.set c (.lst ((relW os w).map oD))) := by
  obtain ⟨q10, e1⟩ := tb_b1 (o0 := o0) (o1 := o1) (o4 := o4) (o5 := some (.int w.1)) (o6 := some (.int w.2.1)) (o10 := o10) hc hT (m := w.2.2) ha hb
  obtain ⟨r10, e2⟩ := tb_b1 (o0 := o0) (o1 := o1) (o4 := o4) (o5 := some (.int w.1)) (o6 := some (.int w.2.1)) (o10 := q10) hc hT (os := rel w.2.2 w.1 w.2.1 os) (m := w.2.2) (a := w.2.1) (b := w.1) (by rw [rel_len]; exact hb) (by rw [rel_len]; exact ha)
  refine ⟨some (.int w.2.1), some (.int w.1), r10, ?_⟩
  unfold relW
  generalize S.set c (.lst (os.map oD)) = X1 at e1 ⊢
  generalize S.set c (.lst ((rel w.2.2 w.1 w.2.1 os).map oD)) = X2 at e1 e2
  generalize S.set c (.lst ((rel w.2.2 w.2.1 w.1 (rel w.2.2 w.1 w.2.1 os)).map oD)) = X3 at e2 ⊢
  unfold g__law_table_b2
  have it : itAny (dTup (aCons (dTup (aCons (dVar 5) (aCons (dVar 6) aNil))) (aCons (dTup (aCons (dVar 6) (aCons (dVar 5) aNil))) aNil))) [o0, o1, some (.lst T), some (.int (i : Int)), o4, some (.int w.1), some (.int w.2.1), some (.int w.2.2), o8, o9, o10] X1 = .ok [.tup [.int w.1, .int w.2.1], .tup [.int w.2.1, .int w.1]] X1 := by
    simp [lim_eq]
  rw [sFor_eq, it]
  simp only [out_ok]
  rw [forL_next (δ1 := [o0, o1, some (.lst T), some (.int (i : Int)), o4, some (.int w.1), some (.int w.2.1), some (.int w.2.2), some (.int w.1), some (.int w.2.1), o10]) rfl e1]
  rw [forL_next (δ1 := [o0, o1, some (.lst T), some (.int (i : Int)), o4, some (.int w.1), some (.int w.2.1), some (.int w.2.2), some (.int w.2.1), some (.int w.1), q10]) rfl e2]
  rfl
theorem tb_b3 (hc : c < S.length) (hT : T[i]? = some (.loc c)) : ∀ (W : List Wi3) (os : Row) (o5 o6 o7 o8 o9 o10 : Option D), (∀ w ∈ W, w.1 < os.length ∧ w.2.1 < os.length) →
    ∃ p5 p6 p7 p8 p9 p10, forL (tgT [tgN 5, tgN 6, tgN 7]) g__law_table_b2 (W.map wI) [o0, o1, some (.lst T), some (.int (i : Int)), o4, o5, o6, o7, o8, o9, o10] (S.set c (.lst (os.map oD))) =
      .nx [o0, o1, some (.lst T), some (.int (i : Int)), o4, p5, p6, p7, p8, p9, p10] (S.set c (.lst ((trn W os).map oD)))
  | [], os, o5, o6, o7, o8, o9, o10, _ => ⟨o5, o6, o7, o8, o9, o10, rfl⟩
  | w :: W, os, o5, o6, o7, o8, o9, o10, h => by
    obtain ⟨h1, h2⟩ := h w List.mem_cons_self
    obtain ⟨q8, q9, q10, e⟩ := tb_b2 (o0 := o0) (o1 := o1) (o4 := o4) (o8 := o8) (o9 := o9) (o10 := o10) hc hT h1 h2
    obtain ⟨p5, p6, p7, p8, p9, p10, g⟩ := tb_b3 hc hT W (relW os w) (some (.int w.1)) (some (.int w.2.1)) (some (.int w.2.2)) q8 q9 q10 (fun u hu => by rw [relW_len]; exact h u (List.mem_cons_of_mem _ hu))
    refine ⟨p5, p6, p7, p8, p9, p10, ?_⟩
    rw [List.map_cons, forL_next (δ1 := [o0, o1, some (.lst T), some (.int (i : Int)), o4, some (.int w.1), some (.int w.2.1), some (.int w.2.2), o8, o9, o10]) rfl e]
    exact g
theorem tb_tr (hc : c < S.length) (hT : T[i]? = some (.loc c)) {W : List Wi3} : ∀ (js : List Int) (os : Row) (o4 o5 o6 o7 o8 o9 o10 : Option D), (∀ w ∈ W, w.1 < os.length ∧ w.2.1 < os.length) →
    ∃ p4 p5 p6 p7 p8 p9 p10, forL (tgN 4) g__law_table_b3 (js.map D.int) [o0, some (.lst (W.map wI)), some (.lst T), some (.int (i : Int)), o4, o5, o6, o7, o8, o9, o10] (S.set c (.lst (os.map oD))) =
      .nx [o0, some (.lst (W.map wI)), some (.lst T), some (.int (i : Int)), p4, p5, p6, p7, p8, p9, p10] (S.set c (.lst ((trns W js.length os).map oD)))
  | [], os, o4, o5, o6, o7, o8, o9, o10, _ => ⟨o4, o5, o6, o7, o8, o9, o10, rfl⟩
  | j :: js, os, o4, o5, o6, o7, o8, o9, o10, h => by
    obtain ⟨q5, q6, q7, q8, q9, q10, e⟩ := tb_b3 (o0 := o0) (o1 := some (.lst (W.map wI))) (o4 := some (.int j)) hc hT W os o5 o6 o7 o8 o9 o10 h
    obtain ⟨p4, p5, p6, p7, p8, p9, p10, g⟩ := tb_tr hc hT js (trn W os) (some (.int j)) q5 q6 q7 q8 q9 q10 (fun u hu => by rw [trn_len]; exact h u hu)
    refine ⟨p4, p5, p6, p7, p8, p9, p10, ?_⟩
    rw [List.map_cons, forL_next (δ1 := [o0, some (.lst (W.map wI)), some (.lst T), some (.int (i : Int)), some (.int j), o5, o6, o7, o8, o9, o10]) rfl (by
      unfold g__law_table_b3
      simp only [sFor_eq, itAny_eq, dVar_eq, List.getElem?_cons_succ, List.getElem?_cons_zero, bind_ok, out_ok]
      exact e)]
    exact g
end
/-- the store when i rows are done -/
def tbS (s : Sto) (n : Nat) (W : List Wi3) (i : Nat) : Sto := s ++ (List.range n).map fun j => .lst ((if j < i then rowF n W j else List.replicate n none).map oD)
theorem tbS_set {s : Sto} {n : Nat} {W : List Wi3} {i : Nat} (hi : i < n) : (tbS s n W i).set (s.length + i) (.lst ((rowF n W i).map oD)) = tbS s n W (i + 1) := by
  unfold tbS
  rw [set_app]
  congr 1
  refine List.ext_getElem? fun j => ?_
  by_cases e : i = j
  · subst e
    rw [List.getElem?_set_self (by simpa using hi), List.getElem?_map, List.getElem?_range hi]
    simp
  · rw [List.getElem?_set_ne e]
    by_cases hj : j < n
    · rw [List.getElem?_map, List.getElem?_map, List.getElem?_range hj]
      simp only [Option.map_some]
      by_cases h1 : j < i
      · rw [if_pos h1, if_pos (by omega)]
      · rw [if_neg h1, if_neg (by omega)]
    · rw [List.getElem?_eq_none (by simp; omega), List.getElem?_eq_none (by simp; omega)]
theorem tbS_len {s : Sto} {n : Nat} {W : List Wi3} {i : Nat} : (tbS s n W i).length = s.length + n := by simp [tbS]
theorem tbS_at {s : Sto} {n : Nat} {W : List Wi3} {i : Nat} (hi : i < n) : (tbS s n W i)[s.length + i]? = some (.lst ((List.replicate n none).map oD)) := by
  unfold tbS
  rw [get_app, List.getElem?_map, List.getElem?_range hi]
  simp
theorem tb_b4 {n : Nat} (h8 : n ≤ 8) {W : List Wi3} (hW : WOk n W) {s : Sto} {i : Nat} (hi : i < n) {o4 o5 o6 o7 o8 o9 o10 : Option D} :
    ∃ p4 p5 p6 p7 p8 p9 p10, g__law_table_b4 [some (.int (n : Int)), some (.lst (W.map wI)), some (.lst (lcs s.length n)), some (.int (i : Int)), o4, o5, o6, o7, o8, o9, o10] (tbS s n W i) =
      .nx [some (.int (n : Int)), some (.lst (W.map wI)), some (.lst (lcs s.length n)), some (.int (i : Int)), p4, p5, p6, p7, p8, p9, p10] (tbS s n W (i + 1)) := by
  have hT := lcs_at (b := s.length) hi
  have cl : s.length + i < (tbS s n W i).length := by rw [tbS_len]; omega
  have gc := tbS_at (s := s) (W := W) hi
  have r0l : (row0 n i).length = n := by unfold row0; rw [List.length_set, List.length_replicate]
  obtain ⟨p4, p5, p6, p7, p8, p9, p10, g⟩ := tb_tr (S := tbS s n W i) (o0 := some (.int (n : Int))) cl hT (W := W) ((List.range n).map fun (k : Nat) => 0 + (k : Int)) (row0 n i) o4 o5 o6 o7 o8 o9 o10 (fun w hw => by
    obtain ⟨r1, r2, _⟩ := hW.rg w hw
    rw [r0l]
    exact ⟨r1, r2⟩)
  rw [List.length_map, List.length_range] at g
  have ef : trns W n (row0 n i) = rowF n W i := rfl
  rw [ef, tbS_set hi] at g
  refine ⟨p4, p5, p6, p7, p8, p9, p10, ?_⟩
  have ei : intsD 0 n = ((List.range n).map fun (k : Nat) => (0 + (k : Int))).map D.int := by simp [intsD]
  unfold g__law_table_b4
  refine seq_step (δ' := [some (.int (n : Int)), some (.lst (W.map wI)), some (.lst (lcs s.length n)), some (.int (i : Int)), o4, o5, o6, o7, o8, o9, o10]) (s' := (tbS s n W i).set (s.length + i) (.lst ((row0 n i).map oD))) ?_ ?_
  · have st : setAt (.loc (s.length + i)) (.int (i : Int)) (.int 0) (tbS s n W i) = some ((tbS s n W i).set (s.length + i) (.lst ((row0 n i).map oD))) := by
      rw [setAt_loc, gc]
      have ix : ixN ((List.replicate n none).map oD).length (i : Int) = some i := by
        unfold ixN
        simp [hi]
      simp only [ix]
      unfold row0
      rw [List.map_set]
      rfl
    generalize lcs s.length n = T at hT
    generalize tbS s n W i = X at st
    have rt : oIx (.lst T) (.int (i : Int)) X = .ok (.loc (s.length + i)) X := by rw [oIx_lst, atI_natc, hT]
    simp only [sIxS_eq, dC_eq, dOp_eq, dVar_eq, List.getElem?_cons_succ, List.getElem?_cons_zero, bind_ok, out_ok, rt, st]
  · have sm : small62 (n : Int) = true := by
      have h1 : (0 : Int) ≤ (n : Int) := by omega
      have h2 : (n : Int) ≤ 8 := by omega
      generalize (n : Int) = m at h1 h2
      unfold small62; simp; omega
    have it : itR1 (aCons (dVar 0) aNil) [some (.int (n : Int)), some (.lst (W.map wI)), some (.lst (lcs s.length n)), some (.int (i : Int)), o4, o5, o6, o7, o8, o9, o10] ((tbS s n W i).set (s.length + i) (.lst ((row0 n i).map oD))) = .ok (intsD 0 n) ((tbS s n W i).set (s.length + i) (.lst ((row0 n i).map oD))) := by
      have ha : ∀ X, aCons (dVar 0) aNil [some (.int (n : Int)), some (.lst (W.map wI)), some (.lst (lcs s.length n)), some (.int (i : Int)), o4, o5, o6, o7, o8, o9, o10] X = .ok [.int (n : Int)] X := fun X => by
        simp only [aCons_eq, aNil_eq, dVar_eq, List.getElem?_cons_zero, bind_ok]
      rw [itR1_eq, ha, bind_ok]
      dsimp only
      rw [if_pos sm, Int.toNat_natCast]
    rw [sFor_eq, it, out_ok, ei]
    exact g
theorem tb_rows {n : Nat} (h8 : n ≤ 8) {W : List Wi3} (hW : WOk n W) {s : Sto} : ∀ (k i : Nat) (o3 o4 o5 o6 o7 o8 o9 o10 : Option D), i + k = n →
    ∃ p3 p4 p5 p6 p7 p8 p9 p10, forL (tgN 3) g__law_table_b4 (((List.range' i k).map fun (j : Nat) => (j : Int)).map D.int) [some (.int (n : Int)), some (.lst (W.map wI)), some (.lst (lcs s.length n)), o3, o4, o5, o6, o7, o8, o9, o10] (tbS s n W i) =
      .nx [some (.int (n : Int)), some (.lst (W.map wI)), some (.lst (lcs s.length n)), p3, p4, p5, p6, p7, p8, p9, p10] (tbS s n W n)
  | 0, i, o3, o4, o5, o6, o7, o8, o9, o10, h => ⟨o3, o4, o5, o6, o7, o8, o9, o10, by rw [show i = n by omega]; rfl⟩
  | k + 1, i, o3, o4, o5, o6, o7, o8, o9, o10, h => by
    obtain ⟨q4, q5, q6, q7, q8, q9, q10, e⟩ := tb_b4 h8 hW (s := s) (i := i) (by omega) (o4 := o4) (o5 := o5) (o6 := o6) (o7 := o7) (o8 := o8) (o9 := o9) (o10 := o10)
    obtain ⟨p3, p4, p5, p6, p7, p8, p9, p10, g⟩ := tb_rows h8 hW (s := s) k (i + 1) (some (.int (i : Int))) q4 q5 q6 q7 q8 q9 q10 (by omega)
    refine ⟨p3, p4, p5, p6, p7, p8, p9, p10, ?_⟩
    rw [List.range'_succ, List.map_cons, List.map_cons, forL_next (δ1 := [some (.int (n : Int)), some (.lst (W.map wI)), some (.lst (lcs s.length n)), some (.int (i : Int)), o4, o5, o6, o7, o8, o9, o10]) rfl e]
    exact g
theorem frz_lcs : ∀ (Cs : List (List D)) (pre : Sto), frzAll (lcs pre.length Cs.length) (pre ++ Cs.map Cell.lst) = some (Cs.map D.lst, pre ++ List.replicate Cs.length .dead)
  | [], pre => by simp [lcs, frzAll]
  | c :: Cs, pre => by
    have ih := frz_lcs Cs (pre ++ [.dead])
    rw [List.length_append, List.length_singleton] at ih
    have g0 : (pre ++ (c :: Cs).map Cell.lst)[pre.length]? = some (.lst c) := by rw [get_app0]; rfl
    have e0 : (pre ++ (c :: Cs).map Cell.lst).set pre.length .dead = pre ++ [Cell.dead] ++ Cs.map Cell.lst := by rw [set_app0]; simp
    show frzAll (.loc pre.length :: lcs (pre.length + 1) Cs.length) _ = _
    unfold frzAll
    have f : frzD (pre ++ (c :: Cs).map Cell.lst) (.loc pre.length) = some (.lst c, pre ++ [Cell.dead] ++ Cs.map Cell.lst) := by
      unfold frzD
      dsimp only
      rw [g0]
      dsimp only
      rw [e0]
    rw [f]
    dsimp only
    rw [ih]
    dsimp only
    rw [List.append_assoc]
    rfl
theorem bel_oD {n : Nat} : ∀ os : Row, belows n (os.map oD) = true
  | [] => rfl
  | o :: os => by
    rw [List.map_cons]
    show (below n (oD o) && belows n (os.map oD)) = true
    rw [bel_oD os]
    cases o <;> rfl
theorem bel_rows {n : Nat} : ∀ R : List Row, belows n (R.map fun os => D.lst (os.map oD)) = true
  | [] => rfl
  | o :: os => by
    rw [List.map_cons]
    show (below n (.lst (o.map oD)) && belows n (os.map fun os => D.lst (os.map oD))) = true
    rw [bel_rows os]
    have := bel_oD (n := n) o
    simp [below, this]
def tabD (n : Nat) (W : List Wi3) : D := .lst ((List.range n).map fun i => .lst ((rowF n W i).map oD))
theorem p_table {n : Nat} (h8 : n ≤ 8) {W : List Wi3} (hW : WOk n W) {s : Sto} (hs : Sb s) : f__law_table [.int (n : Int), .lst (W.map wI)] s = .ok (tabD n W) s := by
  have sm : small62 (n : Int) = true := by
    have h1 : (0 : Int) ≤ (n : Int) := by omega
    have h2 : (n : Int) ≤ 8 := by omega
    generalize (n : Int) = m at h1 h2
    unfold small62; simp; omega
  have it : ∀ (δ : Mp.Env) (X : Sto), δ[0]? = some (some (.int (n : Int))) → itR1 (aCons (dVar 0) aNil) δ X = .ok (intsD 0 n) X := fun δ X h => by
    have ha : aCons (dVar 0) aNil δ X = .ok [.int (n : Int)] X := by
      simp only [aCons_eq, aNil_eq, dVar_eq, h, bind_ok]
    rw [itR1_eq, ha, bind_ok]
    dsimp only
    rw [if_pos sm, Int.toNat_natCast]
  have ei : intsD 0 n = ((List.range n).map fun (k : Nat) => (0 + (k : Int))).map D.int := by simp [intsD]
  have ei2 : intsD 0 n = ((List.range' 0 n).map fun (k : Nat) => (k : Int)).map D.int := by simp [intsD, List.range_eq_range']
  have lc := tb_lc h8 (δ := [some (.int (n : Int)), some (.lst (W.map wI)), none, none, none, none, none, none, none, none, none]) (fun d => rfl) ((List.range n).map fun (k : Nat) => (0 + (k : Int))) [] s (by simp; omega)
  rw [← ei, List.nil_append, List.length_map, List.length_range] at lc
  have t0 : s ++ List.replicate n (Cell.lst (List.replicate n .non)) = tbS s n W 0 := by
    unfold tbS
    refine congrArg (fun x => s ++ x) ?_
    refine List.ext_getElem? fun j => ?_
    by_cases hj : j < n
    · rw [List.getElem?_replicate, if_pos hj, List.getElem?_map, List.getElem?_range hj]
      simp [oD]
    · rw [List.getElem?_eq_none (by simp; omega), List.getElem?_eq_none (by simp; omega)]
  rw [t0] at lc
  obtain ⟨p3, p4, p5, p6, p7, p8, p9, p10, g⟩ := tb_rows h8 hW (s := s) n 0 none none none none none none none none (by omega)
  have fz := frz_lcs ((List.range n).map fun i => (rowF n W i).map oD) s
  rw [List.length_map, List.length_range, List.map_map, List.map_map] at fz
  have t1 : s ++ (List.range n).map (Cell.lst ∘ fun i => (rowF n W i).map oD) = tbS s n W n := by
    unfold tbS
    refine congrArg (fun x => s ++ x) ?_
    refine List.map_congr_left fun j hj => ?_
    have := List.mem_range.mp hj
    simp [this]
  rw [t1] at fz
  have key : g__law_table [some (.int (n : Int)), some (.lst (W.map wI)), none, none, none, none, none, none, none, none, none] s = .rt (tabD n W) (s ++ List.replicate n .dead) := by
    unfold g__law_table
    refine seq_step (δ' := [some (.int (n : Int)), some (.lst (W.map wI)), some (.lst (lcs s.length n)), none, none, none, none, none, none, none, none]) (s' := tbS s n W 0) (by
      rw [sSet_eq, dLc_eq, it _ _ rfl, bind_ok]
      simp only [wipeE_cons, wipeE_nil, List.set]
      rw [lc]
      rfl) ?_
    refine seq_step (δ' := [some (.int (n : Int)), some (.lst (W.map wI)), some (.lst (lcs s.length n)), p3, p4, p5, p6, p7, p8, p9, p10]) (s' := tbS s n W n) (by
      rw [sFor_eq, it _ _ rfl, out_ok, ei2]
      exact g) ?_
    refine seq_step (δ' := [some (.int (n : Int)), some (.lst (W.map wI)), some (tabD n W), p3, p4, p5, p6, p7, p8, p9, p10]) (s' := s ++ List.replicate n .dead) (by
      unfold sFrzN
      simp only [List.getElem?_cons_succ, List.getElem?_cons_zero, fz]
      rfl) ?_
    rfl
  have e0 : f__law_table [.int (n : Int), .lst (W.map wI)] s = finO s.length (g__law_table [some (.int (n : Int)), some (.lst (W.map wI)), none, none, none, none, none, none, none, none, none] s) := by
    generalize D.lst (W.map wI) = V
    generalize hG : g__law_table = G
    have e : ∀ G : DS, mkF 11 2 G [.int (n : Int), V] s = finO s.length (G [some (.int (n : Int)), some V, none, none, none, none, none, none, none, none, none] s) := fun _ => rfl
    rw [← e, ← hG]
    rfl
  rw [e0, key, fin_rt]
  refine cut_back hs ?_
  have := bel_rows (n := s.length) ((List.range n).map (rowF n W))
  rw [List.map_map] at this
  exact this
end Rb
namespace Rb
open PySem PySem.Spec L2 Mp
theorem eq_nil {xs : List Int} {s : Sto} : oEqG false (.lst (xs.map D.int)) (.lst []) s = .ok (.bl xs.isEmpty) s := by
  rw [oEq_ll (datDs_ints xs) (by simp)]
  cases xs <;> rfl
theorem oEq_oD {o : Option Int} {k : Int} {s : Sto} : oEqG false (oD o) (.int k) s = .ok (.bl (decide (o = some k))) s := by
  cases o with
  | none => rfl
  | some x =>
    show oEqG false (.int x) (.int k) s = _
    rw [oEq_int]
    congr 2
    rw [Bool.eq_iff_iff]
    simp
theorem oIs_oD {n : Bool} {o : Option Int} {s : Sto} : oIs n (oD o) .non s = .ok (.bl (n != o.isNone)) s := by cases o <;> rfl
theorem below_le {n m : Nat} (hnm : n ≤ m) : (∀ d, below n d = true → below m d = true) ∧ (∀ ds, belows n ds = true → belows m ds = true) := by
  have : ∀ k, (∀ d, sizeOf d < k → below n d = true → below m d = true) ∧ (∀ ds : List D, sizeOf ds < k → belows n ds = true → belows m ds = true) := by
    intro k
    induction k with
    | zero => exact ⟨fun d hd => absurd hd (by omega), fun d hd => absurd hd (by omega)⟩
    | succ k ih =>
      constructor
      · intro d hd hb
        cases d with
        | loc j => simp [below] at hb ⊢; omega
        | tup xs => exact ih.2 xs (by simp at hd; omega) hb
        | lst xs => exact ih.2 xs (by simp at hd; omega) hb
        | dct ks xs => exact ih.2 xs (by simp at hd; omega) hb
        | obj c ns xs => exact ih.2 xs (by simp at hd; omega) hb
        | _ => rfl
      · intro ds hd hb
        cases ds with
        | nil => rfl
        | cons d ds =>
          have hb' : (below n d && belows n ds) = true := hb
          rw [Bool.and_eq_true] at hb'
          show (below m d && belows m ds) = true
          rw [ih.1 d (by simp at hd; omega) hb'.1, ih.2 ds (by simp at hd; omega) hb'.2]
          rfl
  exact ⟨fun d => (this (sizeOf d + 1)).1 d (by omega), fun ds => (this (sizeOf ds + 1)).2 ds (by omega)⟩
theorem cell_le {n m : Nat} (hnm : n ≤ m) {c : Cell} (hb : Cell.below n c = true) : Cell.below m c = true := by
  cases c with
  | dead => rfl
  | lst xs => exact (below_le hnm).2 xs hb
  | dct ks xs => exact (below_le hnm).2 xs hb
  | obj c ns xs => exact (below_le hnm).2 xs hb
theorem sb_net {s : Sto} (hs : Sb s) {names : List Nm} {W : List Wn3} : Sb (s ++ NetL s.length (stA 0 names) W) := by
  unfold Sb
  rw [List.all_append, Bool.and_eq_true]
  constructor
  · rw [List.all_eq_true]
    intro c hc
    exact cell_le (by rw [List.length_append]; omega) (List.all_eq_true.mp hs c hc)
  · have a1 := bel_stA (n := (s ++ NetL s.length (stA 0 names) W).length) (k := 0) (zs := names)
    have a2 := bel_wD (n := (s ++ NetL s.length (stA 0 names) W).length) W
    have hl : (s ++ NetL s.length (stA 0 names) W).length = s.length + 6 := by simp
    generalize (s ++ NetL s.length (stA 0 names) W).length = L at a1 a2 hl
    subst hl
    simp only [List.all_cons, List.all_nil, Cell.below, a1, a2, Bool.and_true]
    simp [below, belows]
theorem feet_made {names : List Nm} (hN : NsOk names) {W : List Wi3} (hW : WOk names.length W) (hl : W.length ≤ 12) {s : Sto} (hs : Sb s) : ∃ s', Fs (s.length + 6) names (W.map (nmw names)) s' ∧ s'.length = s.length + 9 + names.length ∧ (∀ q, q < s.length → s'[q]? = s[q]?) ∧ Sb s' ∧
    f__law_net [.lst (names.map D.str), .lst (W.map wI)] s = .ok (.loc s.length) (s ++ NetL s.length (stA 0 names) (W.map (nmw names))) ∧ mkO 18 f_Feet___init__ [.loc s.length] (s ++ NetL s.length (stA 0 names) (W.map (nmw names))) = .ok (.loc (s.length + 6)) s' := by
  have hG := GOk_of hN hW hl
  have e1 := p_lnet hN hW hl (s := s)
  obtain ⟨s', h1, h2, h3, h4, h5⟩ := p_feet (nt_app0 (s := s) (A := stA 0 names) (W := W.map (nmw names))) (sb_net hs) hN stA_keys (fun w hw => by
    obtain ⟨a, b, c, _⟩ := hG.rg w hw
    exact ⟨a, b, c⟩) (by rw [List.length_map]; exact hl)
  have ln : (s ++ NetL s.length (stA 0 names) (W.map (nmw names))).length = s.length + 6 := by simp
  rw [ln] at h1 h2 h3 h5
  exact ⟨s', ⟨[], h1, KnOk.nil⟩, by omega, fun q hq => by rw [h3 q (by omega), List.getElem?_append_left hq], h4, e1, h5⟩
theorem Fs.frame {F : Nat} {names : List Nm} {W : List Wn3} {s s' : Sto} (h : Fs F names W s) (k : ∀ i, F ≤ i → i ≤ F + 2 + names.length → s'[i]? = s[i]?) : Fs F names W s' := by
  obtain ⟨Kn, ft, kn⟩ := h.ft
  refine ⟨Kn, ⟨by rw [k F (by omega) (by omega)]; exact ft.o, by rw [k _ (by omega) (by omega)]; exact ft.d, fun i z hi => ?_, by rw [k _ (by omega) (by omega)]; exact ft.k⟩, kn⟩
  have := (List.getElem?_eq_some_iff.mp hi).1
  rw [k _ (by omega) (by omega)]
  exact ft.l i z hi
theorem Fs.lt {F : Nat} {names : List Nm} {W : List Wn3} {s : Sto} (h : Fs F names W s) : F + 2 + names.length < s.length := by
  obtain ⟨Kn, ft, kn⟩ := h.ft
  exact (List.getElem?_eq_some_iff.mp ft.k).1
/-- a store that grew; of the old cells one may have changed -/
structure Ext (k : Nat) (s s' : Sto) : Prop where
  len : s.length ≤ s'.length
  sb : Sb s'
  at_ : ∀ i, i < s.length → i ≠ k → s'[i]? = s[i]?
theorem sb_lst {s : Sto} (hs : Sb s) {V : List D} (hV : ∀ n, belows n V = true) : Sb (s ++ [.lst V]) := by
  unfold Sb
  rw [List.all_append, Bool.and_eq_true]
  constructor
  · rw [List.all_eq_true]
    intro c hc
    exact cell_le (by rw [List.length_append]; omega) (List.all_eq_true.mp hs c hc)
  · simp [Cell.below, hV]
/-- what a call with a plain answer leaves -/
theorem cut_any {F n : Nat} {names : List Nm} {W : List Wn3} {b : Bool} {s X : Sto} (hX : Fs F names W X) (sX : Sb X) (hl : s.length ≤ X.length) (hF : F + 2 + names.length < s.length) (ha : ∀ i, i < s.length → i ≠ F + 2 + names.length → X[i]? = s[i]?) :
    ∃ s', Fs F names W s' ∧ Ext (F + 2 + names.length) s s' ∧ cut s.length (.bl b) X = .ok (.bl b) s' := by
  by_cases e : X.length = s.length
  · exact ⟨X, hX, ⟨hl, sX, ha⟩, cut_len e⟩
  · by_cases c : ((X.take s.length).all (Cell.below s.length)) = true
    · refine ⟨X.take s.length, hX.frame fun i h1 h2 => List.getElem?_take_of_lt (by omega), ⟨by rw [List.length_take]; omega, ?_, fun i h1 h2 => by rw [List.getElem?_take_of_lt h1]; exact ha i h1 h2⟩, ?_⟩
      · unfold Sb
        rw [List.length_take, Nat.min_eq_left hl]
        exact c
      · unfold Mp.cut
        rw [if_neg e, if_pos (by rw [c]; simp [below]; omega)]
    · refine ⟨X, hX, ⟨hl, sX, ha⟩, ?_⟩
      unfold Mp.cut
      rw [if_neg e, if_neg (by simp only [Bool.and_eq_true, not_and]; intro _ _; exact c)]
theorem kit_nb : kitB "NoneType" "bool" = some false := by decide +kernel
abbrev more : List Nat := [109, 111, 114, 101]
section
variable {F : Nat} {names : List Nm} {W : List Wi3} {s : Sto}
theorem tab_ix {n i j : Nat} {o : Option Int} (hi : i < n) (ho : (rowF n W i)[j]? = some o) {s : Sto} : oIx (tabD n W) (.int (i : Int)) s = .ok (.lst ((rowF n W i).map oD)) s ∧ oIx (.lst ((rowF n W i).map oD)) (.int (j : Int)) s = .ok (oD o) s := by
  constructor
  · unfold tabD
    rw [oIx_lst, atI_natc, List.getElem?_map, List.getElem?_range hi]
    rfl
  · rw [oIx_lst, atI_natc, List.getElem?_map, ho]
    rfl
theorem p_right (hF : Fs F names (W.map (nmw names)) s) (hs : Sb s) (hN : NsOk names) (hW : WOk names.length W) (hl : W.length ≤ 12) {i j : Nat} {a b : Nm} (hi : names[i]? = some a) (hj : names[j]? = some b) :
    ∃ s', Fs F names (W.map (nmw names)) s' ∧ Ext (F + 2 + names.length) s s' ∧ f__law_right [.loc F, .lst (names.map D.str), .lst (W.map wI), tabD names.length W, .int (i : Nat), .int (j : Nat)] s = .ok (.bl true) s' := by
  have hG := GOk_of hN hW hl
  have am := List.mem_of_getElem? hi
  have bm := List.mem_of_getElem? hj
  have il := (List.getElem?_eq_some_iff.mp hi).1
  have fl := hF.lt
  obtain ⟨Kn, ft, kn⟩ := hF.ft
  obtain ⟨f, so, _⟩ := p_sought ft hN hG hs am
  obtain ⟨o, ro, io⟩ := rowF_is hN hW hl hi hj so
  obtain ⟨s1, o1, f1, c1, d1, e1⟩ := p_minutes hF hs hN hG am bm
  have oo := d1.uniq io
  subst oo
  have i1 : (names.map D.str)[i]? = some (.str a) := by rw [List.getElem?_map, hi]; rfl
  have i2 : (names.map D.str)[j]? = some (.str b) := by rw [List.getElem?_map, hj]; rfl
  have n1 : ∀ s, oIx (.lst (names.map D.str)) (.int (i : Nat)) s = .ok (.str a) s := fun s => by rw [oIx_lst, atI_natc, i1]
  have n2 : ∀ s, oIx (.lst (names.map D.str)) (.int (j : Nat)) s = .ok (.str b) s := fun s => by rw [oIx_lst, atI_natc, i2]
  have obj : ∀ {s}, Fs F names (W.map (nmw names)) s → ∃ v, s[F]? = some (.obj 18 [0, 1] v) := fun h => by
    obtain ⟨Kn, ft, _⟩ := h.ft
    exact ⟨_, ft.o⟩
  have pre : ∀ (K : DS) (o8 : Option D), (sSeq (sSet 6 (dOp oIx (dOp oIx (dVar 3) (dVar 4)) (dVar 5)))
      (sSeq (sSet 7 (dMeth 7 [(18, f_Feet_minutes)] (dVar 0) (aCons (dOp oIx (dVar 1) (dVar 4)) (aCons (dOp oIx (dVar 1) (dVar 5)) aNil))))
      (sSeq (sIf (tOrD (tst (dOp oNe (dVar 7) (dVar 6))) (tOrD (tst (dBi (bIsO parT parA csT) (aCons (dVar 7) (aCons (dC (.ty "bool")) aNil)))) (tAndD (tst (dOp (oIs true) (dVar 7) (dC .non))) (tNotD (tst (dBi (bIsO parT parA csT) (aCons (dVar 7) (aCons (dC (.ty "int")) aNil)))))))) (sRet (dC (.bl false))) sPass) K))) [some (.loc F), some (.lst (names.map D.str)), some (.lst (W.map wI)), some (tabD names.length W), some (.int (i : Nat)), some (.int (j : Nat)), none, none, o8] s =
      K [some (.loc F), some (.lst (names.map D.str)), some (.lst (W.map wI)), some (tabD names.length W), some (.int (i : Nat)), some (.int (j : Nat)), some (oD o1), some (oD o1), o8] s1 := by
    intro K o8
    obtain ⟨t1, t2⟩ := tab_ix (s := s) il ro
    generalize tabD names.length W = TT at t1
    generalize D.lst ((rowF names.length W i).map oD) = RR at t1 t2
    generalize D.lst (names.map D.str) = L at n1 n2
    refine seq_step (δ' := [some (.loc F), some L, some (.lst (W.map wI)), some TT, some (.int (i : Nat)), some (.int (j : Nat)), some (oD o1), none, o8]) (s' := s) (by
      simp only [sSet_eq, dOp_eq, dVar_eq, List.getElem?_cons_succ, List.getElem?_cons_zero, bind_ok, t1, t2, out_ok]
      rfl) ?_
    refine seq_step (δ' := [some (.loc F), some L, some (.lst (W.map wI)), some TT, some (.int (i : Nat)), some (.int (j : Nat)), some (oD o1), some (oD o1), o8]) (s' := s1) (by
      simp only [sSet_eq, dMeth_eq, dOp_eq, aCons_eq, aNil_eq, dVar_eq, List.getElem?_cons_succ, List.getElem?_cons_zero, bind_ok, obOf_loc, ft.o, n1, n2]
      simp [List.lookup, e1]) ?_
    refine seq_step (δ' := [some (.loc F), some L, some (.lst (W.map wI)), some TT, some (.int (i : Nat)), some (.int (j : Nat)), some (oD o1), some (oD o1), o8]) (s' := s1) ?_ rfl
    cases o1 with
    | none =>
      have b1 : bIsO parT parA csT [.non, .ty "bool"] s1 = .ok (.bl false) s1 := iso_ty (t := "NoneType") rfl kit_nb
      simp [oD, b1]
    | some x =>
      have b1 : bIsO parT parA csT [.int x, .ty "bool"] s1 = .ok (.bl false) s1 := iso_ty (t := "int") rfl kit_ib
      have b2 : bIsO parT parA csT [.int x, .ty "int"] s1 = .ok (.bl true) s1 := iso_ty (t := "int") rfl kit_ii
      simp [oD, b1, b2]
  have wy : ∀ (o6 o7 o8 : Option D) (X : Sto) (R : Res D), (∃ v, X[F]? = some (.obj 18 [0, 1] v)) → f_Feet_way [.loc F, .str a, .str b] X = R → dMeth 7 [(18, f_Feet_way)] (dVar 0) (aCons (dOp oIx (dVar 1) (dVar 4)) (aCons (dOp oIx (dVar 1) (dVar 5)) aNil)) [some (.loc F), some (.lst (names.map D.str)), some (.lst (W.map wI)), some (tabD names.length W), some (.int (i : Nat)), some (.int (j : Nat)), o6, o7, o8] X = R := by
    intro o6 o7 o8 X R ⟨v, hv⟩ h
    generalize D.lst (names.map D.str) = L at n1 n2
    simp only [dMeth_eq, dOp_eq, aCons_eq, aNil_eq, dVar_eq, List.getElem?_cons_succ, List.getElem?_cons_zero, bind_ok, obOf_loc, hv, n1, n2]
    simp [List.lookup, h]
  obtain ⟨s2, f2, c2, alt⟩ := p_way f1 c1.sb hN hG am bm
  rcases alt with ⟨d2, e2⟩ | ⟨m, ws, d2, w2, wl, e2⟩
  · have oo := d2.uniq io
    subst oo
    obtain ⟨s3, f3, c3, alt3⟩ := p_way f2 c2.sb hN hG am bm
    have e3 : f_Feet_way [.loc F, .str a, .str b] s2 = .ok .non s3 := by
      rcases alt3 with ⟨_, e3⟩ | ⟨m, ws, d3, _⟩
      · exact e3
      · have := d3.uniq io
        cases this
    have c13 := (c1.trans c2).trans c3
    refine ⟨s3, f3, ⟨by rw [c13.len]; omega, c13.sb, fun q _ h2 => c13.at_ q h2⟩, ?_⟩
    have key : g__law_right [some (.loc F), some (.lst (names.map D.str)), some (.lst (W.map wI)), some (tabD names.length W), some (.int (i : Nat)), some (.int (j : Nat)), none, none, none] s = .rt (.bl true) s3 := by
      unfold g__law_right
      rw [pre]
      refine seq_step (δ' := [some (.loc F), some (.lst (names.map D.str)), some (.lst (W.map wI)), some (tabD names.length W), some (.int (i : Nat)), some (.int (j : Nat)), some (oD none), some (oD none), some .non]) (s' := s2) (by rw [sSet_eq, wy _ _ _ s1 _ (obj f1) e2]; rfl) ?_
      refine seq_step (δ' := [some (.loc F), some (.lst (names.map D.str)), some (.lst (W.map wI)), some (tabD names.length W), some (.int (i : Nat)), some (.int (j : Nat)), some (oD none), some (oD none), some .non]) (s' := s2) (by
        have w := wr_none (names := names) (W := W) (s := s2) (i := i) (j := j)
        simp [oD, w]) ?_
      refine seq_step (δ' := [some (.loc F), some (.lst (names.map D.str)), some (.lst (W.map wI)), some (tabD names.length W), some (.int (i : Nat)), some (.int (j : Nat)), some (oD none), some (oD none), some .non]) (s' := s2) (by simp) ?_
      have w := wr_none (names := names) (W := W) (s := s3) (i := i) (j := j)
      rw [sRet_eq, dCall_eq, aCons_eq, wy _ _ _ s2 _ (obj f2) e3]
      simp [oD, w]
    show finO s.length (g__law_right [some (.loc F), some (.lst (names.map D.str)), some (.lst (W.map wI)), some (tabD names.length W), some (.int (i : Nat)), some (.int (j : Nat)), none, none, none] s) = _
    rw [key, fin_rt]
    exact cut_len c13.len
  · have oo := d2.uniq io
    subst oo
    have c12 := c1.trans c2
    have wsb : ∀ (ws : List Nm) n, belows n (ws.map D.str) = true := fun ws n => below_strs ws
    have mb : ∀ n, belows n (ws.reverse.map D.str ++ [.str more]) = true := fun n => by
      have := below_strs (n := n) (ws.reverse ++ [more])
      rw [List.map_append] at this
      exact this
    have sX3 : Sb (s2 ++ [Cell.lst (ws.reverse.map D.str ++ [.str more])]) := sb_lst c2.sb mb
    have fX3 : Fs F names (W.map (nmw names)) (s2 ++ [Cell.lst (ws.reverse.map D.str ++ [.str more])]) := f2.app
    obtain ⟨s4, f4, c4, alt4⟩ := p_way fX3 sX3 hN hG am bm
    have e4 : ∃ ws', Way (EW (W.map (nmw names))) a b ws' m ∧ ws'.length ≤ 1000 ∧ f_Feet_way [.loc F, .str a, .str b] (s2 ++ [Cell.lst (ws.reverse.map D.str ++ [.str more])]) = .ok (.loc s4.length) (s4 ++ [.lst (ws'.map D.str)]) := by
      rcases alt4 with ⟨d4, _⟩ | ⟨m', ws', d4, w4, wl4, e4⟩
      · have := d4.uniq io
        cases this
      · have := d4.uniq io
        cases this
        exact ⟨ws', w4, wl4, e4⟩
    obtain ⟨ws', w4, wl4, e4⟩ := e4
    have l4 : s4.length = s.length + 1 := by rw [c4.len, List.length_append, c12.len]; rfl
    have at4 : ∀ q, q < s.length → q ≠ F + 2 + names.length → s4[q]? = s[q]? := fun q h1 h2 => by
      rw [c4.at_ q h2, List.getElem?_append_left (by rw [c12.len]; exact h1), c12.at_ q h2]
    obtain ⟨s', r1, r2, r3⟩ := cut_any (n := 0) (b := true) (s := s) (X := s4 ++ [Cell.lst (ws'.map D.str)]) f4.app (sb_lst c4.sb (wsb ws')) (by rw [List.length_append]; omega) fl (fun q h1 h2 => by rw [List.getElem?_append_left (by omega)]; exact at4 q h1 h2)
    refine ⟨s', r1, r2, ?_⟩
    have key : g__law_right [some (.loc F), some (.lst (names.map D.str)), some (.lst (W.map wI)), some (tabD names.length W), some (.int (i : Nat)), some (.int (j : Nat)), none, none, none] s = .rt (.bl true) (s4 ++ [Cell.lst (ws'.map D.str)]) := by
      unfold g__law_right
      rw [pre]
      refine seq_step (δ' := [some (.loc F), some (.lst (names.map D.str)), some (.lst (W.map wI)), some (tabD names.length W), some (.int (i : Nat)), some (.int (j : Nat)), some (oD (some m)), some (oD (some m)), some (.loc s2.length)]) (s' := s2 ++ [Cell.lst (ws.map D.str)]) (by rw [sSet_eq, wy _ _ _ s1 _ (obj f1) e2]; rfl) ?_
      refine seq_step (δ' := [some (.loc F), some (.lst (names.map D.str)), some (.lst (W.map wI)), some (tabD names.length W), some (.int (i : Nat)), some (.int (j : Nat)), some (oD (some m)), some (oD (some m)), some (.loc s2.length)]) (s' := s2 ++ [Cell.lst (ws.map D.str)]) (by
        have w := wr_cell (s := s2 ++ [Cell.lst (ws.map D.str)]) hN hW hl hi hj w2 wl (n := s2.length) get_app0
        simp [oD, w]) ?_
      refine seq_step (δ' := [some (.loc F), some (.lst (names.map D.str)), some (.lst (W.map wI)), some (tabD names.length W), some (.int (i : Nat)), some (.int (j : Nat)), some (oD (some m)), some (oD (some m)), some (.loc s2.length)]) (s' := s2 ++ [Cell.lst (ws.reverse.map D.str ++ [.str more])]) ?_ ?_
      · have tt : tst (dOp (oIs true) (dVar 8) (dC .non)) [some (.loc F), some (.lst (names.map D.str)), some (.lst (W.map wI)), some (tabD names.length W), some (.int (i : Nat)), some (.int (j : Nat)), some (oD (some m)), some (oD (some m)), some (.loc s2.length)] (s2 ++ [Cell.lst (ws.map D.str)]) = .ok true (s2 ++ [Cell.lst (ws.map D.str)]) := by simp
        rw [sIf_eq, tt]
        simp only [out_ok, if_true]
        have rt1 : recvTy (s2 ++ [Cell.lst (ws.map D.str)]) (.loc s2.length) = some "list" := by rw [recvTy_loc, get_app0]; rfl
        have rv : mReverse (.loc s2.length) [] (s2 ++ [Cell.lst (ws.map D.str)]) = .ok .non (s2 ++ [Cell.lst (ws.reverse.map D.str)]) := by
          unfold mReverse
          dsimp only
          rw [get_app0]
          simp only [List.getElem?_cons_zero]
          rw [set_app0]
          simp
        have rt2 : recvTy (s2 ++ [Cell.lst (ws.reverse.map D.str)]) (.loc s2.length) = some "list" := by rw [recvTy_loc, get_app0]; rfl
        have ap : mAppend (.loc s2.length) [.str more] (s2 ++ [Cell.lst (ws.reverse.map D.str)]) = .ok .non (s2 ++ [Cell.lst (ws.reverse.map D.str ++ [.str more])]) := by
          rw [mAppend_eq, get_app0]
          simp only [List.getElem?_cons_zero]
          rw [if_pos (by rw [List.length_map, List.length_reverse, lim_eq]; omega), set_app0]
          rfl
        refine seq_step (δ' := [some (.loc F), some (.lst (names.map D.str)), some (.lst (W.map wI)), some (tabD names.length W), some (.int (i : Nat)), some (.int (j : Nat)), some (oD (some m)), some (oD (some m)), some (.loc s2.length)]) (s' := s2 ++ [Cell.lst (ws.reverse.map D.str)]) ?_ ?_
        · simp only [sDrop_eq, dMt_eq, dVar_eq, List.getElem?_cons_succ, List.getElem?_cons_zero, bind_ok, rt1, if_true, aNil_eq, rv, out_ok]
        · simp only [sDrop_eq, dMt_eq, dVar_eq, dC_eq, aCons_eq, List.getElem?_cons_succ, List.getElem?_cons_zero, bind_ok, rt2, if_true, aNil_eq, ap, out_ok]
      · have w := wr_cell (s := s4 ++ [Cell.lst (ws'.map D.str)]) hN hW hl hi hj w4 wl4 (n := s4.length) get_app0
        rw [sRet_eq, dCall_eq, aCons_eq, wy _ _ _ _ _ (obj fX3) e4]
        simp [oD, w]
    show finO s.length (g__law_right [some (.loc F), some (.lst (names.map D.str)), some (.lst (W.map wI)), some (tabD names.length W), some (.int (i : Nat)), some (.int (j : Nat)), none, none, none] s) = _
    rw [key, fin_rt]
    exact r3
end
end Rb
namespace Rb
open PySem PySem.Spec L2 Mp
/-! ### what is refused -/
abbrev wStop : List Nat := [115, 116, 111, 112]
theorem word6 {s : Sto} : f__law_word [.exc 6] s = .ok (.lst [.str wStop]) s := by
  have key : g__law_word [some (.exc 6), none, none, none] s = .rt (.lst [.str wStop]) s := by rfl
  show finO s.length (g__law_word [some (.exc 6), none, none, none] s) = _
  rw [key]
  simp
theorem ne_stop {s : Sto} : oEqG true (.lst [.str wStop]) (.lst [.str wStop]) s = .ok (.bl false) s := by
  rw [oEq_ll (by decide) (by decide)]
  rfl
def OddS (names : List Nm) (d : D) : Prop := (∀ s, bIsO parT parA csT [d, .ty "str"] s = .ok (.bl false) s) ∨ ∃ z, d = .str z ∧ z ∉ names
theorem odds_ni {names : List Nm} {d : D} {t : String} (ht : ∀ s, tyOf s d = some t) (hk : kitB t "str" = some false) : OddS names d := .inl fun s => iso_ty (t := t) (ht s) hk
section
variable {F : Nat} {names : List Nm} {W : List Wi3} {s : Sto}
theorem p_bad {g : Nm → List (Nm × Int)} {Kn : Ps} (h : Ft F names g Kn s) {d : D} (hd : OddS names d) : f_Feet_need [.loc F, d] s = .exc 6 s := by
  rcases hd with hd | ⟨z, rfl, hz⟩
  · simp [f_Feet_need, mkF, g_Feet_need, hd s]
  · have i1 : bIsO parT parA csT [.str z, .ty "str"] s = .ok (.bl true) s := iso_ty (t := "str") rfl kit_ss
    obtain ⟨l, _⟩ := lk_no (P := npP (F + 1) names) (z := z) (by rw [npP_keys]; exact hz)
    simp [f_Feet_need, mkF, g_Feet_need, i1, h.o, h.d, l]
theorem led_bad {g : Nm → List (Nm × Int)} {Kn : Ps} (h : Ft F names g Kn s) (nd : names.Nodup) {x y : D} (hx : OddS names x ∨ (∃ z, x = .str z ∧ z ∈ names) ∧ OddS names y) : f_Feet_led [.loc F, x, y] s = .exc 6 s := by
  rcases hx with hx | ⟨⟨z, rfl, hz⟩, hy⟩
  · simp [f_Feet_led, mkF, g_Feet_led, dMeth_eq, List.lookup, h.o, p_bad h hx]
  · simp [f_Feet_led, mkF, g_Feet_led, dMeth_eq, List.lookup, h.o, p_fneed h nd hz, p_bad h hy]
theorem p_refused (hF : Fs F names (W.map (nmw names)) s) (nd : names.Nodup) {x y : D} (hx : OddS names x ∨ (∃ z, x = .str z ∧ z ∈ names) ∧ OddS names y) {w : Int} (hw : w = 0 ∨ w = 1) : f__law_refused [.loc F, .int w, x, y] s = .ok (.lst [.str wStop]) s := by
  obtain ⟨Kn, ft, _⟩ := hF.ft
  have e := led_bad ft nd hx
  have e1 : f_Feet_minutes [.loc F, x, y] s = .exc 6 s := by simp [f_Feet_minutes, mkF, g_Feet_minutes, dMeth_eq, List.lookup, ft.o, e]
  have e2 : f_Feet_way [.loc F, x, y] s = .exc 6 s := by simp [f_Feet_way, mkF, g_Feet_way, dMeth_eq, List.lookup, ft.o, e]
  have b : g__law_refused_b1 [some (.loc F), some (.int w), some x, some y, some .non, none] s = .ex 6 [some (.loc F), some (.int w), some x, some y, some .non, none] s := by
    rcases hw with rfl | rfl
    · simp [g__law_refused_b1, dMeth_eq, List.lookup, ft.o, e1]
    · simp [g__law_refused_b1, dMeth_eq, List.lookup, ft.o, e2]
  have t := sTry_ex (anc := ancO parT) (c := 0) (i := some 5) (g := sSet 4 (dVar 5)) b (by rfl)
  simp at t
  simp [f__law_refused, mkF, g__law_refused, t, word6]
end
theorem odds_all {names : List Nm} (hN : NsOk names) (hw : nwh ∉ names) {z : Nm} : ∀ d ∈ [D.non, .bl true, .int 0, .str [], .str [65], .str nwh, .lst [.str z], .tup [], .dct [] []], OddS names d := by
  intro d hd
  simp only [List.mem_cons, List.not_mem_nil, or_false] at hd
  rcases hd with rfl | rfl | rfl | rfl | rfl | rfl | rfl | rfl | rfl
  · exact odds_ni (fun _ => rfl) kit_ns
  · exact odds_ni (fun _ => rfl) kit_bs
  · exact odds_ni (fun _ => rfl) kit_is
  · exact .inr ⟨_, rfl, fun h => (hN.nm _ h).1 rfl⟩
  · exact .inr ⟨_, rfl, fun h => by have := (hN.nm _ h).2.2 65 (by simp); omega⟩
  · exact .inr ⟨_, rfl, hw⟩
  · exact odds_ni (fun _ => rfl) kit_ls
  · exact odds_ni (fun _ => rfl) kit_ts
  · exact odds_ni (fun _ => rfl) kit_ds
/-! ### the net goes on -/
theorem dist_one {names : List Nm} {W : List Wn3} (hG : GOk names W) {a b : Nm} (ne : a ≠ b) (e : EW W a b 1) {o : Option Int} (h : IsD (EW W) a b o) : o = some 1 := by
  have d : IsD (EW W) a b (some 1) := by
    refine ⟨?_, fun n p => ?_⟩
    · have := Path.cons e (.nil b)
      rw [Int.add_zero] at this
      exact this
    · cases p with
      | nil => exact absurd rfl ne
      | cons e' p' =>
        have h1 := hG.pos _ _ _ e'
        have h2 := p'.nonneg hG.pos
        omega
  exact h.uniq d
/-- new feet of the net, and what they tell of two neighbours -/
theorem p_newfeet {A : Ps} {W : List Wn3} {names : List Nm} {s : Sto} (h : Nt 0 A W s) (hs : Sb s) (hN : NsOk names) (hA : A.map (·.1) = names) (hG : GOk names W) {a b : Nm} (ha : a ∈ names) (hb : b ∈ names) (ne : a ≠ b) (e : EW W a b 1) {δ : Mp.Env} {f g : DE} (h0 : δ[0]? = some (some (.loc 0))) (hf : ∀ s, f δ s = .ok (.str a) s) (hg : ∀ s, g δ s = .ok (.str b) s) :
    ∃ s', s.length ≤ s'.length ∧ Sb s' ∧ (∀ q, q < s.length → s'[q]? = s[q]?) ∧ dMeth 7 [(18, f_Feet_minutes)] (dCall (mkO 18 f_Feet___init__) (aCons (dVar 0) aNil)) (aCons f (aCons g aNil)) δ s = .ok (.int 1) s' := by
  obtain ⟨s1, f1, l1, q1, b1, m1⟩ := p_feet h hs hN hA (fun w hw => by
    obtain ⟨x, y, z, _⟩ := hG.rg w hw
    exact ⟨x, y, z⟩) hG.le
  have fs : Fs s.length names W s1 := ⟨[], f1, KnOk.nil⟩
  obtain ⟨s2, o, f2, c2, d2, e2⟩ := p_minutes fs b1 hN hG ha hb
  have oo := dist_one hG ne e d2
  subst oo
  refine ⟨s2, by rw [c2.len]; omega, c2.sb, fun q hq => by rw [c2.at_ q (by omega), q1 q hq], ?_⟩
  have ob := f1.o
  have cl : dCall (mkO 18 f_Feet___init__) (aCons (dVar 0) aNil) δ s = .ok (.loc s.length) s1 := by
    simp only [dCall_eq, aCons_eq, aNil_eq, dVar_eq, h0, bind_ok, m1]
  rw [dMeth_eq, cl, bind_ok]
  simp only [obOf_loc, ob, aCons_eq, aNil_eq, hf, hg, bind_ok]
  simp [List.lookup, e2, oD]
section
variable {names : List Nm} {W : List Wi3} {s : Sto}
/-- the net, perhaps with one stop and one walk more -/
structure Ng (names : List Nm) (W : List Wi3) (s : Sto) : Prop where
  ex : ∃ A W' names', Nt 0 A W' s ∧ A.map (·.1) = names' ∧ NsOk names' ∧ (∀ z ∈ names, z ∈ names') ∧ GOk names' W' ∧ W'.length ≤ W.length + 1 ∧ ∀ w ∈ W', w ∈ W.map (nmw names) ∨ (w.1 = frs ∧ frs ∉ names)
theorem nt_set1 {A A' : Ps} {W : List Wn3} (h : Nt 0 A W s) : Nt 0 A' W (s.set 1 (.dct (ky A') (vl A'))) :=
  ⟨by rw [List.getElem?_set_ne (by omega)]; exact h.o, List.getElem?_set_self (List.getElem?_eq_some_iff.mp h.a).1, by rw [List.getElem?_set_ne (by omega)]; exact h.w⟩
theorem nt_set2 {A : Ps} {W W' : List Wn3} (h : Nt 0 A W s) : Nt 0 A W' (s.set 2 (.lst (W'.map wD))) :=
  ⟨by rw [List.getElem?_set_ne (by omega)]; exact h.o, by rw [List.getElem?_set_ne (by omega)]; exact h.a, List.getElem?_set_self (List.getElem?_eq_some_iff.mp h.w).1⟩
theorem bel_app {n : Nat} : ∀ {a b : List D}, belows n a = true → belows n b = true → belows n (a ++ b) = true
  | [], b, _, h => h
  | x :: a, b, h1, h2 => by
    have h1' : (below n x && belows n a) = true := h1
    rw [Bool.and_eq_true] at h1'
    show (below n x && belows n (a ++ b)) = true
    rw [h1'.1, bel_app h1'.2 h2]
    rfl
theorem nm_frs : NmOk frs := ⟨by decide, by decide, by decide⟩
/-- the first part: a stop and a walk more -/
theorem go_1 {F : Nat} (hF0 : 6 ≤ F) (hF : Fs F names (W.map (nmw names)) s) (hs : Sb s) (hN : NsOk names) (hW : WOk names.length W) (hl : W.length ≤ 10) (hn : Nt 0 (stA 0 names) (W.map (nmw names)) s) (hfr : frs ∉ names) {a : Nm} (ha : names[0]? = some a) {o3 o4 o5 o6 : Option D} :
    ∃ s', Fs F names (W.map (nmw names)) s' ∧ Sb s' ∧ Ng names W s' ∧ s.length ≤ s'.length ∧ (sIf (tst (dOp oLt (dBi bLen (aCons (dVar 2) aNil)) (dC (.int 8)))) (sSeq (sDrop (dMeth 7 [(19, f_Net_add_stop)] (dVar 0) (aCons (dC (.str [102, 114, 101, 115, 104])) (aCons (dC (.int 1)) (aCons (dC (.int 0)) aNil)))))
      (sSeq (sDrop (dMeth 7 [(19, f_Net_add_walk)] (dVar 0) (aCons (dC (.str [102, 114, 101, 115, 104])) (aCons (dOp oIx (dVar 2) (dC (.int 0))) (aCons (dC (.int 1)) aNil)))))
      (sIf (tOrD (tst (dOp oNe (dMeth 7 [(18, f_Feet_minutes)] (dCall (mkO 18 f_Feet___init__) (aCons (dVar 0) aNil)) (aCons (dOp oIx (dVar 2) (dC (.int 0))) (aCons (dC (.str [102, 114, 101, 115, 104])) aNil))) (dC (.int 1)))) (tst (dOp oNe (dCall f__law_refused (aCons (dVar 1) (aCons (dC (.int 0)) (aCons (dOp oIx (dVar 2) (dC (.int 0))) (aCons (dC (.str [102, 114, 101, 115, 104])) aNil))))) (dLst (aCons (dC (.str [115, 116, 111, 112])) aNil))))) (sRet (dC (.bl false))) sPass))) sPass) [some (.loc 0), some (.loc F), some (.lst (names.map D.str)), o3, o4, o5, o6] s =
      .nx [some (.loc 0), some (.loc F), some (.lst (names.map D.str)), o3, o4, o5, o6] s' := by
  have hG := GOk_of hN hW (by omega)
  have am := List.mem_of_getElem? ha
  have naf : a ≠ frs := fun e => hfr (e ▸ am)
  have i0 : (names.map D.str)[0]? = some (.str a) := by rw [List.getElem?_map, ha]; rfl
  have n0 : ∀ s, oIx (.lst (names.map D.str)) (.int 0) s = .ok (.str a) s := fun s => by
    rw [oIx_lst]
    have : atI (names.map D.str) (0 : Int) = some (.str a) := by
      have := atI_natc (xs := names.map D.str) (i := 0)
      rw [i0] at this
      exact this
    rw [this]
  have base : Ng names W s := ⟨stA 0 names, W.map (nmw names), names, hn, stA_keys, hN, fun _ h => h, hG, by rw [List.length_map]; omega, fun w hw => .inl hw⟩
  by_cases c : names.length < 8
  · have hN' : NsOk (names ++ [frs]) := ⟨fun z hz => by
      rcases List.mem_append.mp hz with hz | hz
      · exact hN.nm z hz
      · rw [List.mem_singleton.mp hz]; exact nm_frs, by
      rw [List.nodup_append]
      refine ⟨hN.nd, by simp, fun x hx y hy => ?_⟩
      rw [List.mem_singleton.mp hy]
      exact fun e => hfr (e ▸ hx), by rw [List.length_append, List.length_singleton]; omega⟩
    have k1 := p_addstop (v := 1) (c := 0) hn nm_frs (by rw [stA_keys]; exact hfr) (by
      have := congrArg List.length (stA_keys (k := 0) (zs := names))
      rw [List.length_map] at this
      omega) (by omega) (by omega)
    have hn1 := nt_set1 (A' := stA 0 names ++ [(frs, .tup [.int 1, .int 0])]) hn
    have keys' : (stA 0 names ++ [(frs, D.tup [.int 1, .int 0])]).map (·.1) = names ++ [frs] := by rw [List.map_append, stA_keys]; rfl
    have sb1 : Sb (s.set 1 (.dct (ky (stA 0 names ++ [(frs, .tup [.int 1, .int 0])])) (vl (stA 0 names ++ [(frs, .tup [.int 1, .int 0])])))) := sb_set hs (by
      show belows s.length (vl (stA 0 names ++ [(frs, .tup [.int 1, .int 0])])) = true
      unfold vl
      rw [List.map_append]
      exact bel_app bel_stA rfl)
    have k2 := p_addwalk (a := frs) (b := a) (m := 1) hn1 ⟨nm_frs, by rw [keys']; simp⟩ ⟨hN.nm _ am, by rw [keys']; exact List.mem_append_left _ am⟩ (Ne.symm naf) (fun w hw => by
      obtain ⟨x1, x2, x3, _⟩ := hG.rg w hw
      exact ⟨hN.nm _ x1, hN.nm _ x2, fun e => hfr (by have := congrArg (·.1) e; simp only at this; rw [← this]; exact x1), fun e => hfr (by have := congrArg (·.2) e; simp only at this; rw [← this]; exact x2)⟩) (by omega) (by rw [List.length_map]; omega)
    have hn2 := nt_set2 (W' := W.map (nmw names) ++ [(frs, a, 1)]) hn1
    have sb2 := sb_set (i := 2) (c := .lst ((W.map (nmw names) ++ [(frs, a, 1)]).map wD)) sb1 (by
      show belows _ ((W.map (nmw names) ++ [(frs, a, 1)]).map wD) = true
      exact bel_wD _)
    have lens : ((s.set 1 (.dct (ky (stA 0 names ++ [(frs, .tup [.int 1, .int 0])])) (vl (stA 0 names ++ [(frs, .tup [.int 1, .int 0])])))).set 2 (.lst ((W.map (nmw names) ++ [(frs, a, 1)]).map wD))).length = s.length := by rw [List.length_set, List.length_set]
    have hF2 : Fs F names (W.map (nmw names)) ((s.set 1 (.dct (ky (stA 0 names ++ [(frs, .tup [.int 1, .int 0])])) (vl (stA 0 names ++ [(frs, .tup [.int 1, .int 0])])))).set 2 (.lst ((W.map (nmw names) ++ [(frs, a, 1)]).map wD))) := hF.frame fun q h1 h2 => by
      rw [List.getElem?_set_ne (by omega), List.getElem?_set_ne (by omega)]
    generalize hS1 : s.set 1 (.dct (ky (stA 0 names ++ [(frs, .tup [.int 1, .int 0])])) (vl (stA 0 names ++ [(frs, .tup [.int 1, .int 0])]))) = S1 at k1 hn1 k2 hn2 sb2 lens hF2 sb1
    generalize hS2 : S1.set (0 + 2) (.lst ((W.map (nmw names) ++ [(frs, a, 1)]).map wD)) = S2 at k2
    have hS2' : S1.set 2 (.lst ((W.map (nmw names) ++ [(frs, a, 1)]).map wD)) = S2 := hS2
    rw [hS2'] at hn2 sb2 lens hF2
    have k1' : f_Net_add_stop [.loc 0, .str frs, .int 1, .int 0] s = .ok .non S1 := by rw [k1, ← hS1]
    have hG2 : GOk (names ++ [frs]) (W.map (nmw names) ++ [(frs, a, 1)]) := ⟨fun w hw => by
      rcases List.mem_append.mp hw with hw | hw
      · obtain ⟨x1, x2, x3, x4⟩ := hG.rg w hw
        exact ⟨List.mem_append_left _ x1, List.mem_append_left _ x2, x3, x4⟩
      · rw [List.mem_singleton.mp hw]
        exact ⟨List.mem_append_right _ (by simp), List.mem_append_left _ am, Ne.symm naf, by show (1 : Int) ≤ 1; omega⟩, by rw [List.length_append, List.length_map, List.length_singleton]; omega⟩
    have ee : EW (W.map (nmw names) ++ [(frs, a, 1)]) a frs 1 := .inr (List.mem_append_right _ (by simp))
    obtain ⟨S3, l3, sb3, q3, e3⟩ := p_newfeet hn2 sb2 hN' keys' hG2 (List.mem_append_left _ am) (List.mem_append_right _ (by simp)) naf ee (δ := [some (.loc 0), some (.loc F), some (.lst (names.map D.str)), o3, o4, o5, o6]) (f := dOp oIx (dVar 2) (dC (.int 0))) (g := dC (.str [102, 114, 101, 115, 104])) rfl (fun s => by
      have := n0 s
      generalize D.lst (names.map D.str) = L at this
      simp only [dOp_eq, dVar_eq, dC_eq, List.getElem?_cons_succ, List.getElem?_cons_zero, bind_ok, this]) (fun s => rfl)
    have fl := hF2.lt
    have hF3 : Fs F names (W.map (nmw names)) S3 := hF2.frame fun q h1 h2 => q3 q (by omega)
    have rf := p_refused hF3 hN.nd (x := .str a) (y := .str frs) (.inr ⟨⟨a, rfl, am⟩, .inr ⟨frs, rfl, hfr⟩⟩) (w := 0) (.inl rfl)
    have hn3 : Nt 0 (stA 0 names ++ [(frs, .tup [.int 1, .int 0])]) (W.map (nmw names) ++ [(frs, a, 1)]) S3 := ⟨by rw [q3 _ (by omega)]; exact hn2.o, by rw [q3 _ (by omega)]; exact hn2.a, by rw [q3 _ (by omega)]; exact hn2.w⟩
    refine ⟨S3, hF3, sb3, ⟨_, _, names ++ [frs], hn3, keys', hN', fun z hz => List.mem_append_left _ hz, hG2, by rw [List.length_append, List.length_map, List.length_singleton]; omega, fun w hw => ?_⟩, by omega, ?_⟩
    · rcases List.mem_append.mp hw with hw | hw
      · exact .inl hw
      · rw [List.mem_singleton.mp hw]
        exact .inr ⟨rfl, hfr⟩
    · have ob := hn.o
      have ob1 := hn1.o
      have nn1 := n0 S1
      have nn3 := n0 S3
      have tl : tst (dOp oLt (dBi bLen (aCons (dVar 2) aNil)) (dC (.int 8))) [some (.loc 0), some (.loc F), some (.lst (names.map D.str)), o3, o4, o5, o6] s = .ok true s := by
        have : (names.length : Int) < 8 := by omega
        simp
        exact this
      rw [sIf_eq, tl]
      simp only [out_ok, if_true]
      generalize D.lst (names.map D.str) = L at nn1 nn3 e3
      refine seq_step (δ' := [some (.loc 0), some (.loc F), some L, o3, o4, o5, o6]) (s' := S1) (by
        have k1'' : f_Net_add_stop [.loc 0, .str [102, 114, 101, 115, 104], .int 1, .int 0] s = .ok .non S1 := k1'
        simp [dMeth_eq, List.lookup, ob, k1'']) ?_
      refine seq_step (δ' := [some (.loc 0), some (.loc F), some L, o3, o4, o5, o6]) (s' := S2) (by
        have k2'' : f_Net_add_walk [.loc 0, .str [102, 114, 101, 115, 104], .str a, .int 1] S1 = .ok .non S2 := k2
        simp [dMeth_eq, List.lookup, ob1, nn1, k2'']) ?_
      have rf' : f__law_refused [.loc F, .int 0, .str a, .str [102, 114, 101, 115, 104]] S3 = .ok (.lst [.str [115, 116, 111, 112]]) S3 := rf
      have ns' : oEqG true (.lst [.str [115, 116, 111, 112]]) (.lst [.str [115, 116, 111, 112]]) S3 = .ok (.bl false) S3 := ne_stop
      have tt : (tOrD (tst (dOp oNe (dMeth 7 [(18, f_Feet_minutes)] (dCall (mkO 18 f_Feet___init__) (aCons (dVar 0) aNil)) (aCons (dOp oIx (dVar 2) (dC (.int 0))) (aCons (dC (.str [102, 114, 101, 115, 104])) aNil))) (dC (.int 1)))) (tst (dOp oNe (dCall f__law_refused (aCons (dVar 1) (aCons (dC (.int 0)) (aCons (dOp oIx (dVar 2) (dC (.int 0))) (aCons (dC (.str [102, 114, 101, 115, 104])) aNil))))) (dLst (aCons (dC (.str [115, 116, 111, 112])) aNil))))) [some (.loc 0), some (.loc F), some L, o3, o4, o5, o6] S2 = .ok false S3 := by
        rw [tOr_eq, tst_eq, dOp_eq, e3]
        simp only [bind_ok, dC_eq, oEq_int]
        simp [nn3, rf', ns', lim_eq]
      rw [sIf_eq, tt]
      rfl
  · refine ⟨s, hF, hs, base, Nat.le_refl _, ?_⟩
    have tl : tst (dOp oLt (dBi bLen (aCons (dVar 2) aNil)) (dC (.int 8))) [some (.loc 0), some (.loc F), some (.lst (names.map D.str)), o3, o4, o5, o6] s = .ok false s := by
      simp
      omega
    rw [sIf_eq, tl]
    rfl
end
end Rb
namespace Rb
open PySem PySem.Spec L2 Mp
theorem dats_wI {n : Nat} : ∀ {L : List Wi3}, datDs (n + 1) (L.map wI) = true
  | [] => by simp
  | w :: L => by
    rw [List.map_cons, datDs_cons, dats_wI]
    have : datD (n + 1) (wI w) = true := by
      show datDs n [.int w.1, .int w.2.1, .int w.2.2] = true
      simp
    rw [this]
    rfl
theorem eq_wI {L : List Wi3} {s : Sto} : oEqG false (.lst (L.map wI)) (.lst []) s = .ok (.bl L.isEmpty) s := by
  rw [oEq_ll (dats_wI (n := 62)) datDs_nil]
  cases L <;> rfl
theorem cut_ex {n : Nat} {d : D} {s : Sto} : ∃ s', cut n d s = .ok d s' := by
  unfold Mp.cut
  split
  · exact ⟨_, rfl⟩
  · split
    · exact ⟨_, rfl⟩
    · exact ⟨_, rfl⟩
section
variable {names : List Nm} {W : List Wi3} {s : Sto}
theorem go_2 {F : Nat} (hF0 : 6 ≤ F) (hF : Fs F names (W.map (nmw names)) s) (hs : Sb s) (hN : NsOk names) (hW : WOk names.length W) (hl : W.length ≤ 10) (hg : Ng names W s) {a : Nm} (ha : names[0]? = some a) {o4 o5 : Option D} :
    ∃ s', Fs F names (W.map (nmw names)) s' ∧ Sb s' ∧ (sIf (tAndD (tst (dOp oGt (dBi bLen (aCons (dVar 2) aNil)) (dC (.int 1)))) (tst (dOp oEq (dLc (itAny (dVar 3)) (tgN 6) (tst (dOp (oInX false) (dSl (dVar 6) pNone (pSome (dC (.int 2)))) (dTup (aCons (dTup (aCons (dC (.int 0)) (aCons (dC (.int 1)) aNil))) (aCons (dTup (aCons (dC (.int 1)) (aCons (dC (.int 0)) aNil))) aNil))))) (dVar 6) [6]) (dLst aNil)))) (sSeq (sDrop (dMeth 7 [(19, f_Net_add_walk)] (dVar 0) (aCons (dOp oIx (dVar 2) (dC (.int 1))) (aCons (dOp oIx (dVar 2) (dC (.int 0))) (aCons (dC (.int 1)) aNil)))))
      (sIf (tst (dOp oNe (dMeth 7 [(18, f_Feet_minutes)] (dCall (mkO 18 f_Feet___init__) (aCons (dVar 0) aNil)) (aCons (dOp oIx (dVar 2) (dC (.int 0))) (aCons (dOp oIx (dVar 2) (dC (.int 1))) aNil))) (dC (.int 1)))) (sRet (dC (.bl false))) sPass)) sPass) [some (.loc 0), some (.loc F), some (.lst (names.map D.str)), some (.lst (W.map wI)), o4, o5, none] s =
      .nx [some (.loc 0), some (.loc F), some (.lst (names.map D.str)), some (.lst (W.map wI)), o4, o5, none] s' := by
  have am := List.mem_of_getElem? ha
  have fl := hF.lt
  by_cases c1 : 1 < names.length
  · obtain ⟨b, hb⟩ : ∃ b, names[1]? = some b := ⟨_, List.getElem?_eq_getElem c1⟩
    have bm := List.mem_of_getElem? hb
    have nab : a ≠ b := fun e => by
      subst e
      have := nd_at hN.nd ha hb
      omega
    have ix : ∀ (k : Nat) (z : Nm), names[k]? = some z → ∀ s, oIx (.lst (names.map D.str)) (.int (k : Int)) s = .ok (.str z) s := fun k z hz s => by
      rw [oIx_lst, atI_natc, List.getElem?_map, hz]
      rfl
    have n0 : ∀ s, oIx (.lst (names.map D.str)) (.int 0) s = .ok (.str a) s := ix 0 a ha
    have n1 : ∀ s, oIx (.lst (names.map D.str)) (.int 1) s = .ok (.str b) s := ix 1 b hb
    have c := lcL_fil (s := s) (δ := [some (.loc 0), some (.loc F), some (.lst (names.map D.str)), some (.lst (W.map wI)), o4, o5, none]) (t := tgN 6) (c := tst (dOp (oInX false) (dSl (dVar 6) pNone (pSome (dC (.int 2)))) (dTup (aCons (dTup (aCons (dC (.int 0)) (aCons (dC (.int 1)) aNil))) (aCons (dTup (aCons (dC (.int 1)) (aCons (dC (.int 0)) aNil))) aNil))))) (e := dVar 6) id (fun d => match d with | .tup [.int i, .int j, _] => decide ((i.toNat, j.toNat) ∈ [(0, 1), (1, 0)]) | _ => false) (W.map wI) [] (by rw [lim_eq]; simp; omega) (by
      intro d hd
      obtain ⟨w, hw, rfl⟩ := List.mem_map.mp hd
      refine ⟨_, rfl, ?_, fun _ => by simp⟩
      have k := oInX_ok (neg := false) (s := s) (x := pn (w.1, w.2.1)) (y := .tup [pn (0, 1), pn (1, 0)]) (ys := [(0, 1), (1, 0)].map pn) (dat_pn (n := 7)) (dats_pn (n := 62)) rfl
      rw [any_pn] at k
      have sl : oSl (wI w) none (some 2) s = .ok (pn (w.1, w.2.1)) s := rfl
      have er : dTup (aCons (dTup (aCons (dC (.int 0)) (aCons (dC (.int 1)) aNil))) (aCons (dTup (aCons (dC (.int 1)) (aCons (dC (.int 0)) aNil))) aNil)) ([some (.loc 0), some (.loc F), some (.lst (names.map D.str)), some (.lst (W.map wI)), o4, o5, none].set 6 (some (wI w))) s = .ok (.tup [pn (0, 1), pn (1, 0)]) s := by
        simp [lim_eq, pn]
      have el : dSl (dVar 6) pNone (pSome (dC (.int 2))) ([some (.loc 0), some (.loc F), some (.lst (names.map D.str)), some (.lst (W.map wI)), o4, o5, none].set 6 (some (wI w))) s = .ok (pn (w.1, w.2.1)) s := by
        simp only [dSl_eq, pNone_eq, pSome_eq, dC_eq, dVar_eq, List.set, List.getElem?_cons_succ, List.getElem?_cons_zero, bind_ok, sl]
      rw [tst_eq, dOp_eq, el, bind_ok, er, bind_ok, k]
      simp [wI])
    have ef : (W.map wI).filter (fun d => match d with | .tup [.int i, .int j, _] => decide ((i.toNat, j.toNat) ∈ [(0, 1), (1, 0)]) | _ => false) = (W.filter fun w => decide ((w.1, w.2.1) ∈ [(0, 1), (1, 0)])).map wI := by
      rw [List.filter_map]
      rfl
    rw [ef, List.map_id, List.nil_append] at c
    have en := eq_wI (L := W.filter fun w => decide ((w.1, w.2.1) ∈ [(0, 1), (1, 0)])) (s := s)
    have tt : (tAndD (tst (dOp oGt (dBi bLen (aCons (dVar 2) aNil)) (dC (.int 1)))) (tst (dOp oEq (dLc (itAny (dVar 3)) (tgN 6) (tst (dOp (oInX false) (dSl (dVar 6) pNone (pSome (dC (.int 2)))) (dTup (aCons (dTup (aCons (dC (.int 0)) (aCons (dC (.int 1)) aNil))) (aCons (dTup (aCons (dC (.int 1)) (aCons (dC (.int 0)) aNil))) aNil))))) (dVar 6) [6]) (dLst aNil)))) [some (.loc 0), some (.loc F), some (.lst (names.map D.str)), some (.lst (W.map wI)), o4, o5, none] s = .ok (W.filter fun w => decide ((w.1, w.2.1) ∈ [(0, 1), (1, 0)])).isEmpty s := by
      have g1 : tst (dOp oGt (dBi bLen (aCons (dVar 2) aNil)) (dC (.int 1))) [some (.loc 0), some (.loc F), some (.lst (names.map D.str)), some (.lst (W.map wI)), o4, o5, none] s = .ok true s := by
        have : (1 : Int) < names.length := by omega
        simp
        exact this
      have g2 : dLc (itAny (dVar 3)) (tgN 6) (tst (dOp (oInX false) (dSl (dVar 6) pNone (pSome (dC (.int 2)))) (dTup (aCons (dTup (aCons (dC (.int 0)) (aCons (dC (.int 1)) aNil))) (aCons (dTup (aCons (dC (.int 1)) (aCons (dC (.int 0)) aNil))) aNil))))) (dVar 6) [6] [some (.loc 0), some (.loc F), some (.lst (names.map D.str)), some (.lst (W.map wI)), o4, o5, none] s = .ok (.lst ((W.filter fun w => decide ((w.1, w.2.1) ∈ [(0, 1), (1, 0)])).map wI)) s := by
        simp only [dLc_eq, itAny_eq, dVar_eq, List.getElem?_cons_succ, List.getElem?_cons_zero, bind_ok, wipeE_cons, wipeE_nil, List.set] at c ⊢
        exact c
      rw [tAnd_eq, g1, bind_ok, if_pos rfl, tst_eq, dOp_eq, g2, bind_ok, dLst_eq, aNil_eq, bind_ok]
      rw [if_pos (by decide), bind_ok]
      show (oEqG false _ _ s).bind _ = _
      rw [en, bind_ok]
    rw [sIf_eq, tt]
    simp only [out_ok]
    by_cases c2 : (W.filter fun w => decide ((w.1, w.2.1) ∈ [(0, 1), (1, 0)])) = []
    · rw [c2]
      simp only [List.isEmpty_nil, if_true]
      obtain ⟨A, W', names', nt, kA, hN', sub, hG', wl, hw'⟩ := hg.ex
      have none_of : ∀ w ∈ W', NmOk w.1 ∧ NmOk w.2.1 ∧ (w.1, w.2.1) ≠ (b, a) ∧ (w.1, w.2.1) ≠ (a, b) := fun w hw => by
        obtain ⟨x1, x2, x3, x4⟩ := hG'.rg w hw
        refine ⟨hN'.nm _ x1, hN'.nm _ x2, ?_⟩
        rcases hw' w hw with h | ⟨h1, h2⟩
        · obtain ⟨w0, m0, rfl⟩ := List.mem_map.mp h
          obtain ⟨r1, r2, _⟩ := hW.rg w0 m0
          have l0 : 0 < names.length := by omega
          have g0 : names.getD 0 [] = a := by
            have := (getD_at l0).1
            rw [ha] at this
            exact (Option.some.inj this).symm
          have g1 : names.getD 1 [] = b := by
            have := (getD_at c1).1
            rw [hb] at this
            exact (Option.some.inj this).symm
          have no : (w0.1, w0.2.1) ∉ [(0, 1), (1, 0)] := fun q => by
            have : w0 ∈ W.filter fun w => decide ((w.1, w.2.1) ∈ [(0, 1), (1, 0)]) := List.mem_filter.mpr ⟨m0, by simpa using q⟩
            rw [c2] at this
            cases this
          constructor
          · intro e
            have e1 : names.getD w0.1 [] = b := congrArg (·.1) e
            have e2 : names.getD w0.2.1 [] = a := congrArg (·.2) e
            have i1 := getD_inj hN.nd r1 c1 (by rw [e1, g1])
            have i2 := getD_inj hN.nd r2 l0 (by rw [e2, g0])
            exact no (by rw [i1, i2]; simp)
          · intro e
            have e1 : names.getD w0.1 [] = a := congrArg (·.1) e
            have e2 : names.getD w0.2.1 [] = b := congrArg (·.2) e
            have i1 := getD_inj hN.nd r1 l0 (by rw [e1, g0])
            have i2 := getD_inj hN.nd r2 c1 (by rw [e2, g1])
            exact no (by rw [i1, i2]; simp)
        · constructor
          · intro e
            have e1 : w.1 = b := congrArg (·.1) e
            exact h2 (by rw [← h1, e1]; exact bm)
          · intro e
            have e1 : w.1 = a := congrArg (·.1) e
            exact h2 (by rw [← h1, e1]; exact am)
      have k2 := p_addwalk (a := b) (b := a) (m := 1) nt ⟨hN.nm _ bm, by rw [kA]; exact sub _ bm⟩ ⟨hN.nm _ am, by rw [kA]; exact sub _ am⟩ (Ne.symm nab) none_of (by omega) (by omega)
      have nt2 := nt_set2 (W' := W' ++ [(b, a, 1)]) nt
      have sb2 := sb_set (i := 2) (c := .lst ((W' ++ [(b, a, 1)]).map wD)) hs (by
        show belows _ ((W' ++ [(b, a, 1)]).map wD) = true
        exact bel_wD _)
      have lens : (s.set 2 (.lst ((W' ++ [(b, a, 1)]).map wD))).length = s.length := by rw [List.length_set]
      have hF2 : Fs F names (W.map (nmw names)) (s.set 2 (.lst ((W' ++ [(b, a, 1)]).map wD))) := hF.frame fun q h1 h2 => by rw [List.getElem?_set_ne (by omega)]
      generalize hS2 : s.set (0 + 2) (.lst ((W' ++ [(b, a, 1)]).map wD)) = S2 at k2
      have hS2' : s.set 2 (.lst ((W' ++ [(b, a, 1)]).map wD)) = S2 := hS2
      rw [hS2'] at nt2 sb2 lens hF2
      have hG2 : GOk names' (W' ++ [(b, a, 1)]) := ⟨fun w hw => by
        rcases List.mem_append.mp hw with hw | hw
        · exact hG'.rg w hw
        · rw [List.mem_singleton.mp hw]
          exact ⟨sub _ bm, sub _ am, Ne.symm nab, by show (1 : Int) ≤ 1; omega⟩, by rw [List.length_append, List.length_singleton]; omega⟩
      have ee : EW (W' ++ [(b, a, 1)]) a b 1 := .inr (List.mem_append_right _ (by simp))
      have arg : ∀ (k : Int) (z : Nm), (∀ s, oIx (.lst (names.map D.str)) (.int k) s = .ok (.str z) s) → ∀ s, dOp oIx (dVar 2) (dC (.int k)) [some (.loc 0), some (.loc F), some (.lst (names.map D.str)), some (.lst (W.map wI)), o4, o5, none] s = .ok (.str z) s := fun k z h s => by
        have := h s
        generalize D.lst (names.map D.str) = L at this
        simp only [dOp_eq, dVar_eq, dC_eq, List.getElem?_cons_succ, List.getElem?_cons_zero, bind_ok, this]
      obtain ⟨S3, l3, sb3, q3, e3⟩ := p_newfeet nt2 sb2 hN' kA hG2 (sub _ am) (sub _ bm) nab ee (δ := [some (.loc 0), some (.loc F), some (.lst (names.map D.str)), some (.lst (W.map wI)), o4, o5, none]) (f := dOp oIx (dVar 2) (dC (.int 0))) (g := dOp oIx (dVar 2) (dC (.int 1))) rfl (arg 0 a n0) (arg 1 b n1)
      have fl2 := hF2.lt
      refine ⟨S3, hF2.frame fun q h1 h2 => q3 q (by omega), sb3, ?_⟩
      have ob := nt.o
      refine seq_step (δ' := [some (.loc 0), some (.loc F), some (.lst (names.map D.str)), some (.lst (W.map wI)), o4, o5, none]) (s' := S2) (by
        have x0 := arg 0 a n0 s
        have x1 := arg 1 b n1 s
        rw [sDrop_eq, dMeth_eq]
        simp only [dVar_eq, List.getElem?_cons_zero, bind_ok, obOf_loc, ob, aCons_eq, aNil_eq, dC_eq]
        simp only [x0, x1, bind_ok]
        simp [List.lookup, k2]) ?_
      have t3 : tst (dOp oNe (dMeth 7 [(18, f_Feet_minutes)] (dCall (mkO 18 f_Feet___init__) (aCons (dVar 0) aNil)) (aCons (dOp oIx (dVar 2) (dC (.int 0))) (aCons (dOp oIx (dVar 2) (dC (.int 1))) aNil))) (dC (.int 1))) [some (.loc 0), some (.loc F), some (.lst (names.map D.str)), some (.lst (W.map wI)), o4, o5, none] S2 = .ok false S3 := by
        rw [tst_eq, dOp_eq, e3]
        simp only [bind_ok, dC_eq, oEq_int]
        simp
      rw [sIf_eq, t3]
      rfl
    · refine ⟨s, hF, hs, ?_⟩
      have : (W.filter fun w => decide ((w.1, w.2.1) ∈ [(0, 1), (1, 0)])).isEmpty = false := by
        cases q : W.filter fun w => decide ((w.1, w.2.1) ∈ [(0, 1), (1, 0)]) with
        | nil => exact absurd q c2
        | cons _ _ => rfl
      rw [this]
      rfl
  · refine ⟨s, hF, hs, ?_⟩
    have g1 : tst (dOp oGt (dBi bLen (aCons (dVar 2) aNil)) (dC (.int 1))) [some (.loc 0), some (.loc F), some (.lst (names.map D.str)), some (.lst (W.map wI)), o4, o5, none] s = .ok false s := by
      simp
      omega
    rw [sIf_eq, tAnd_eq, g1]
    rfl
theorem p_goes {F : Nat} (hF0 : 6 ≤ F) (hF : Fs F names (W.map (nmw names)) s) (hs : Sb s) (hN : NsOk names) (hne : 0 < names.length) (hW : WOk names.length W) (hl : W.length ≤ 10) (hn : Nt 0 (stA 0 names) (W.map (nmw names)) s) (hfr : frs ∉ names) :
    ∃ s', f__law_goes_on [.loc 0, .loc F, .lst (names.map D.str), .lst (W.map wI), tabD names.length W] s = .ok (.bl true) s' := by
  obtain ⟨a, ha⟩ : ∃ a, names[0]? = some a := ⟨_, List.getElem?_eq_getElem hne⟩
  obtain ⟨s1, f1, sb1, ng, _, e1⟩ := go_1 hF0 hF hs hN hW hl hn hfr ha (o3 := some (.lst (W.map wI))) (o4 := some (tabD names.length W)) (o5 := none) (o6 := none)
  obtain ⟨s2, f2, sb2, e2⟩ := go_2 hF0 f1 sb1 hN hW hl ng ha (o4 := some (tabD names.length W)) (o5 := none)
  obtain ⟨l, hlast⟩ : ∃ l : Nat, (names.length : Int) - 1 = (l : Int) := ⟨names.length - 1, by omega⟩
  have ll : l < names.length := by omega
  obtain ⟨b, hb⟩ : ∃ b, names[l]? = some b := ⟨_, List.getElem?_eq_getElem ll⟩
  obtain ⟨c, hc⟩ : ∃ c, names[min 1 l]? = some c := ⟨_, List.getElem?_eq_getElem (by omega)⟩
  obtain ⟨s3, f3, x3, e3⟩ := p_right f2 sb2 hN hW (by omega) ha hb
  obtain ⟨s4, f4, x4, e4⟩ := p_right f3 x3.sb hN hW (by omega) hb hc
  have key : g__law_goes_on [some (.loc 0), some (.loc F), some (.lst (names.map D.str)), some (.lst (W.map wI)), some (tabD names.length W), none, none] s = .rt (.bl true) s4 := by
    unfold g__law_goes_on
    refine seq_step e1 ?_
    refine seq_step e2 ?_
    refine seq_step (δ' := [some (.loc 0), some (.loc F), some (.lst (names.map D.str)), some (.lst (W.map wI)), some (tabD names.length W), some (.int (l : Int)), none]) (s' := s2) (by simp [hlast]) ?_
    have e3' : f__law_right [.loc F, .lst (names.map D.str), .lst (W.map wI), tabD names.length W, .int 0, .int (l : Int)] s2 = .ok (.bl true) s3 := e3
    have mn : ∀ s, bMin2 [.int 1, .int (l : Int)] s = .ok (.int ((min 1 l : Nat) : Int)) s := fun s => by
      show Res.ok (D.int (if (l : Int) < 1 then (l : Int) else 1)) s = _
      congr 2
      split <;> omega
    generalize tabD names.length W = TT at e3' e4
    generalize D.lst (names.map D.str) = L at e3' e4
    generalize D.lst (W.map wI) = WW at e3' e4
    simp only [sRet_eq, dAnd_eq, dCall_eq, aCons_eq, aNil_eq, dBi_eq, dVar_eq, dC_eq, List.getElem?_cons_succ, List.getElem?_cons_zero, bind_ok, mn, e3', e4, out_ok]
  have e0 : f__law_goes_on [.loc 0, .loc F, .lst (names.map D.str), .lst (W.map wI), tabD names.length W] s = finO s.length (g__law_goes_on [some (.loc 0), some (.loc F), some (.lst (names.map D.str)), some (.lst (W.map wI)), some (tabD names.length W), none, none] s) := by
    generalize tabD names.length W = TT
    generalize D.lst (names.map D.str) = L
    generalize D.lst (W.map wI) = WW
    have e : ∀ G : DS, mkF 7 5 G [.loc 0, .loc F, L, WW, TT] s = finO s.length (G [some (.loc 0), some (.loc F), some L, some WW, some TT, none, none] s) := fun _ => rfl
    rw [← e]
    rfl
  rw [e0, key, fin_rt]
  exact cut_ex
end
end Rb
namespace Rb
open PySem PySem.Spec L2 Mp
theorem pure_law (ns : List Int) (h : ns.length ≤ 63) : f_law [.scr ns] [] = .ok (.bl true) [] := by
  obtain ⟨x, x0, x1, e0⟩ := p_draw (ns := ns) (k := 0) (s := []) (by omega)
  have hmany : ∃ n : Nat, 1 ≤ n ∧ n ≤ 8 ∧ (dOp oIx (dLst (aCons (dOp oAdd (dC (.int 1)) (dOp oMod (dVar 1) (dC (.int 5)))) (aCons (dC (.int 8)) aNil))) (dBi bInt (aCons (dOp oEq (dOp oMod (dOp oDiv (dVar 1) (dC (.int 8))) (dC (.int 8))) (dC (.int 1))) aNil))) [some (.scr ns), some (.int x), none, none, none, none, none, none, none, none, none, none] [] = .ok (.int (n : Int)) [] := by
    by_cases q : x / 8 % 8 = 1
    · refine ⟨8, by omega, by omega, ?_⟩
      have q' : (x / 8 % 8 == 1) = true := by simpa using q
      simp [lim_eq, q]
    · obtain ⟨n, hn⟩ := Int.eq_ofNat_of_zero_le (a := 1 + x % 5) (by omega)
      refine ⟨n, by omega, by omega, ?_⟩
      have q' : (x / 8 % 8 == 1) = false := by simpa using q
      simp [lim_eq, q, q', hn]
  obtain ⟨n, m1, m8, em⟩ := hmany
  obtain ⟨names, n1, n2, n3, e1⟩ := p_names (ns := ns) (k := 1) (M := (n : Int)) (many := n) (s := []) (by omega) (by omega) rfl
  have hN : NsOk names := ⟨fun z hz => (n3 z hz).1, n2, by omega⟩
  obtain ⟨W, hW, hl, e2⟩ := p_lwalks (ns := ns) (n := n) (M := x / 64 % 13) (s := []) rfl (by omega) (by omega)
  subst n1
  have hnw : nwh ∉ names := fun q => (n3 _ q).2.1 rfl
  have hfr : frs ∉ names := fun q => (n3 _ q).2.2 rfl
  obtain ⟨S1, a1, a2, a3, a4, a5, a6⟩ := feet_made hN hW hl (s := []) rfl
  -- the net stands below the feet
  have hnet : Nt 0 (stA 0 names) (W.map (nmw names)) S1 := by
    obtain ⟨f1, f2, f3⟩ := nt_app0 (s := []) (A := stA 0 names) (W := W.map (nmw names))
    obtain ⟨S', g1, g2, g3, g4, g5⟩ := p_feet (nt_app0 (s := []) (A := stA 0 names) (W := W.map (nmw names))) (sb_net (s := []) rfl) hN stA_keys (fun w hw => by
      obtain ⟨p, q, r, _⟩ := (GOk_of hN hW hl).rg w hw
      exact ⟨p, q, r⟩) (by rw [List.length_map]; exact hl)
    have g5' : mkO 18 f_Feet___init__ [.loc 0] ([] ++ NetL 0 (stA 0 names) (W.map (nmw names))) = .ok (.loc 6) S' := g5
    have a6' : mkO 18 f_Feet___init__ [.loc 0] ([] ++ NetL 0 (stA 0 names) (W.map (nmw names))) = .ok (.loc 6) S1 := a6
    rw [g5'] at a6'
    have es : S' = S1 := by injection a6'
    subst es
    refine ⟨?_, ?_, ?_⟩
    · rw [g3 0 (by simp)]; exact f1
    · rw [g3 1 (by simp)]; exact f2
    · rw [g3 2 (by simp)]; exact f3
  rw [List.length_nil, Nat.zero_add] at a1 a2
  rw [List.length_nil] at a5 a6
  have a6' : mkO 18 f_Feet___init__ [.loc 0] ([] ++ NetL 0 (stA 0 names) (W.map (nmw names))) = .ok (.loc 6) S1 := a6
  generalize ([] : Sto) ++ NetL 0 (stA 0 names) (W.map (nmw names)) = T1 at a5 a6'
  have tb := p_table hN.le hW (s := S1) a4
  obtain ⟨z, hz⟩ : ∃ z, names[0]? = some z := ⟨_, List.getElem?_eq_getElem (by omega)⟩
  have zm := List.mem_of_getElem? hz
  -- all pairs
  let I : Sto → Prop := fun S => Fs 6 names (W.map (nmw names)) S ∧ Sb S ∧ Nt 0 (stA 0 names) (W.map (nmw names)) S
  have keep : ∀ {S S' : Sto}, I S → Fs 6 names (W.map (nmw names)) S' → Ext (6 + 2 + names.length) S S' → I S' := fun {S S'} hI hf he => by
    obtain ⟨_, _, nt⟩ := hI
    refine ⟨hf, he.sb, ?_, ?_, ?_⟩
    · rw [he.at_ 0 (List.getElem?_eq_some_iff.mp nt.o).1 (by omega)]; exact nt.o
    · rw [he.at_ (0 + 1) (List.getElem?_eq_some_iff.mp nt.a).1 (by omega)]; exact nt.a
    · rw [he.at_ (0 + 2) (List.getElem?_eq_some_iff.mp nt.w).1 (by omega)]; exact nt.w
  have smn : small62 (names.length : Int) = true := by
    have h1 : (0 : Int) ≤ (names.length : Int) := by omega
    have h2 : (names.length : Int) ≤ 8 := by omega
    generalize (names.length : Int) = m at h1 h2
    unfold small62; simp; omega
  have it : ∀ (δ : Mp.Env) (X : Sto), δ[2]? = some (some (.int (names.length : Int))) → itR1 (aCons (dVar 2) aNil) δ X = .ok (intsD 0 names.length) X := fun δ X h => by
    have ha : aCons (dVar 2) aNil δ X = .ok [.int (names.length : Int)] X := by
      simp only [aCons_eq, aNil_eq, dVar_eq, h, bind_ok]
    rw [itR1_eq, ha, bind_ok]
    dsimp only
    rw [if_pos smn, Int.toNat_natCast]
  let E8 : Option D → Option D → Mp.Env := fun o8 o9 => [some (.scr ns), some (.int x), some (.int (names.length : Int)), some (.lst (names.map D.str)), some (.lst (W.map wI)), some (.loc 0), some (.loc 6), some (tabD names.length W), o8, o9, none, none]
  have inner : ∀ (i : Nat) (S : Sto) (o9 : Option D), i < names.length → I S → ∃ S' p9, I S' ∧ g_law_b2 (E8 (some (.int (i : Int))) o9) S = .nx (E8 (some (.int (i : Int))) p9) S' := by
    intro i S o9 hi hI
    obtain ⟨δ', S', e, hI', p9, rfl⟩ := forL_ok (fun _ δ s' => I s' ∧ ∃ p9, δ = E8 (some (.int (i : Int))) p9) (t := tgN 9) (b := g_law_b1) (intsD 0 names.length) 0 (fun q d δ s' hd hi' => by
      obtain ⟨hI2, p9, rfl⟩ := hi'
      obtain ⟨j, hj, rfl⟩ := mem_ints (List.mem_of_getElem? hd)
      rw [Int.zero_add]
      obtain ⟨s5, r1, r2, r3⟩ := p_right hI2.1 hI2.2.1 hN hW hl (List.getElem?_eq_getElem hi) (List.getElem?_eq_getElem hj)
      refine ⟨E8 (some (.int (i : Int))) (some (.int (j : Int))), _, s5, rfl, .inl ?_, keep hI2 r1 r2, some (.int (j : Int)), rfl⟩
      show g_law_b1 [some (.scr ns), some (.int x), some (.int (names.length : Int)), some (.lst (names.map D.str)), some (.lst (W.map wI)), some (.loc 0), some (.loc 6), some (tabD names.length W), some (.int (i : Int)), some (.int (j : Int)), none, none] s' = _
      generalize hTT : tabD names.length W = TT at r3
      generalize hL : D.lst (names.map D.str) = L at r3
      generalize hWW : D.lst (W.map wI) = WW at r3
      simp only [g_law_b1, sIf_eq, tNot_eq, tst_eq, dCall_eq, aCons_eq, aNil_eq, dVar_eq, List.getElem?_cons_succ, List.getElem?_cons_zero, bind_ok, r3, out_ok, Bool.not_true, Bool.false_eq_true, if_false, sPass_eq]
      rw [← hTT, ← hL, ← hWW]) (E8 (some (.int (i : Int))) o9) S ⟨hI, o9, rfl⟩
    refine ⟨S', p9, hI', ?_⟩
    unfold g_law_b2
    rw [sFor_eq, it _ _ rfl, out_ok]
    exact e
  obtain ⟨δ2, S2, f2, hI2, q8, q9, rfl⟩ := forL_ok (fun _ δ s' => I s' ∧ ∃ p8 p9, δ = E8 p8 p9) (t := tgN 8) (b := g_law_b2) (intsD 0 names.length) 0 (fun q d δ s' hd hi' => by
      obtain ⟨hI3, p8, p9, rfl⟩ := hi'
      obtain ⟨j, hj, rfl⟩ := mem_ints (List.mem_of_getElem? hd)
      rw [Int.zero_add]
      obtain ⟨s5, r9, h1, h2⟩ := inner j s' p9 hj hI3
      exact ⟨_, _, s5, rfl, .inl h2, h1, some (.int (j : Int)), r9, rfl⟩) (E8 none none) S1 ⟨⟨a1, a4, hnet⟩, none, none, rfl⟩
  obtain ⟨od, h1, hod⟩ := atI_ex (xs := [D.non, .bl true, .int 0, .str [], .str [65], .str nwh, .lst [.str z], .tup [], .dct [] []]) (i := x / 1024 % 9) (Q := OddS names) (by omega) (by simp; omega) (odds_all hN hnw)
  obtain ⟨yl, hyl⟩ : ∃ yl, names[names.length - 1]? = some yl := ⟨_, List.getElem?_eq_getElem (by omega)⟩
  have ym := List.mem_of_getElem? hyl
  have i0 : ∀ s, oIx (.lst (names.map D.str)) (.int 0) s = .ok (.str z) s := fun s => by
    have := atI_natc (xs := names.map D.str) (i := 0)
    rw [List.getElem?_map, hz] at this
    rw [oIx_lst]
    have t : atI (names.map D.str) (0 : Int) = some (.str z) := this
    rw [t]
  have il : ∀ s, oIx (.lst (names.map D.str)) (.int (-1)) s = .ok (.str yl) s := fun s => by
    obtain ⟨ys, y, hy⟩ : ∃ (ys : List Nm) (y : Nm), names = ys ++ [y] := ⟨names.dropLast, names.getLast (by intro q; rw [q] at m1; simp at m1), (List.dropLast_concat_getLast _).symm⟩
    have hyy : y = yl := by
      rw [hy] at hyl
      simp at hyl
      exact hyl
    have : names.map D.str = ys.map D.str ++ [.str yl] := by rw [hy, List.map_append, hyy]; rfl
    rw [oIx_lst, this, at_last]
  have rf := fun w hw => p_refused (s := S2) hI2.1 hN.nd (x := od) (y := .str z) (.inl hod) (w := w) hw
  have rf2 := fun w hw => p_refused (s := S2) hI2.1 hN.nd (x := .str yl) (y := od) (.inr ⟨⟨yl, rfl, ym⟩, hod⟩) (w := w) hw
  let E11 : Option D → Mp.Env := fun o11 => [some (.scr ns), some (.int x), some (.int (names.length : Int)), some (.lst (names.map D.str)), some (.lst (W.map wI)), some (.loc 0), some (.loc 6), some (tabD names.length W), q8, q9, some od, o11]
  have b3 : ∀ (w : Int), (w = 0 ∨ w = 1) → g_law_b3 (E11 (some (.int w))) S2 = .nx (E11 (some (.int w))) S2 := fun w hw => by
    have r1 := rf w hw
    have r2 := rf2 w hw
    have n0 := i0 S2
    have nl := il S2
    have nst := ne_stop (s := S2)
    show g_law_b3 [some (.scr ns), some (.int x), some (.int (names.length : Int)), some (.lst (names.map D.str)), some (.lst (W.map wI)), some (.loc 0), some (.loc 6), some (tabD names.length W), q8, q9, some od, some (.int w)] S2 = .nx [some (.scr ns), some (.int x), some (.int (names.length : Int)), some (.lst (names.map D.str)), some (.lst (W.map wI)), some (.loc 0), some (.loc 6), some (tabD names.length W), q8, q9, some od, some (.int w)] S2
    generalize D.lst (names.map D.str) = L at n0 nl
    have l1 : ([D.str [115, 116, 111, 112]]).length ≤ lim := by decide
    have nst' : oNe (.lst [.str [115, 116, 111, 112]]) (.lst [.str [115, 116, 111, 112]]) S2 = .ok (.bl false) S2 := nst
    simp only [g_law_b3, sIf_eq, tOr_eq, tst_eq, dOp_eq, dCall_eq, aCons_eq, aNil_eq, dVar_eq, dC_eq, dLst_eq, dUn_eq, List.getElem?_cons_succ, List.getElem?_cons_zero, bind_ok, n0, nl, r1, r2, if_pos l1, nst', out_ok, Bool.false_eq_true, if_false, sPass_eq]
  obtain ⟨S4, eg⟩ : ∃ S4, W.length ≤ 10 → f__law_goes_on [.loc 0, .loc 6, .lst (names.map D.str), .lst (W.map wI), tabD names.length W] S2 = .ok (.bl true) S4 := by
    by_cases c : W.length ≤ 10
    · obtain ⟨S4, e⟩ := p_goes (F := 6) (by omega) hI2.1 hI2.2.1 hN (by omega) hW c hI2.2.2 hfr
      exact ⟨S4, fun _ => e⟩
    · exact ⟨[], fun h => absurd h c⟩
  have last : ∃ S5, (sRet (dOrV (dOp oGt (dBi bLen (aCons (dVar 4) aNil)) (dC (.int 10))) (dCall f__law_goes_on (aCons (dVar 5) (aCons (dVar 6) (aCons (dVar 3) (aCons (dVar 4) (aCons (dVar 7) aNil)))))))) (E11 (some (.int 1))) S2 = .rt (.bl true) S5 := by
    have len : bLen [.lst (W.map wI)] S2 = .ok (.int (W.length : Int)) S2 := by rw [bLen_lst, List.length_map]
    by_cases c : W.length ≤ 10
    · refine ⟨S4, ?_⟩
      have e := eg c
      have g : oGt (.int (W.length : Int)) (.int 10) S2 = .ok (.bl false) S2 := by simp; omega
      show (sRet _) [some (.scr ns), some (.int x), some (.int (names.length : Int)), some (.lst (names.map D.str)), some (.lst (W.map wI)), some (.loc 0), some (.loc 6), some (tabD names.length W), q8, q9, some od, some (.int 1)] S2 = _
      generalize tabD names.length W = TT at e
      generalize D.lst (names.map D.str) = L at e
      generalize D.lst (W.map wI) = WW at e len
      simp only [sRet_eq, dOr_eq, dOp_eq, dBi_eq, dCall_eq, aCons_eq, aNil_eq, dVar_eq, dC_eq, List.getElem?_cons_succ, List.getElem?_cons_zero, bind_ok, len, g, e, out_ok]
    · refine ⟨S2, ?_⟩
      have g : oGt (.int (W.length : Int)) (.int 10) S2 = .ok (.bl true) S2 := by simp; omega
      show (sRet _) [some (.scr ns), some (.int x), some (.int (names.length : Int)), some (.lst (names.map D.str)), some (.lst (W.map wI)), some (.loc 0), some (.loc 6), some (tabD names.length W), q8, q9, some od, some (.int 1)] S2 = _
      generalize D.lst (W.map wI) = WW at len
      simp only [sRet_eq, dOr_eq, dOp_eq, dBi_eq, dCall_eq, aCons_eq, aNil_eq, dVar_eq, dC_eq, List.getElem?_cons_succ, List.getElem?_cons_zero, bind_ok, len, g, out_ok]
  obtain ⟨S5, last⟩ := last
  have key : g_law [some (.scr ns), none, none, none, none, none, none, none, none, none, none, none] [] = .rt (.bl true) S5 := by
    unfold g_law
    refine seq_step (δ' := [some (.scr ns), some (.int x), none, none, none, none, none, none, none, none, none, none]) (s' := []) (by simp [e0]) ?_
    refine seq_step (δ' := [some (.scr ns), some (.int x), some (.int (names.length : Int)), none, none, none, none, none, none, none, none, none]) (s' := []) (by rw [sSet_eq, em]; rfl) ?_
    refine seq_step (δ' := [some (.scr ns), some (.int x), some (.int (names.length : Int)), some (.lst (names.map D.str)), none, none, none, none, none, none, none, none]) (s' := []) (by simp [e1]) ?_
    refine seq_step (δ' := [some (.scr ns), some (.int x), some (.int (names.length : Int)), some (.lst (names.map D.str)), some (.lst (W.map wI)), none, none, none, none, none, none, none]) (s' := []) (by simp [e2]) ?_
    refine seq_step (δ' := [some (.scr ns), some (.int x), some (.int (names.length : Int)), some (.lst (names.map D.str)), some (.lst (W.map wI)), some (.loc 0), none, none, none, none, none, none]) (s' := T1) (by simp [a5]) ?_
    refine seq_step (δ' := [some (.scr ns), some (.int x), some (.int (names.length : Int)), some (.lst (names.map D.str)), some (.lst (W.map wI)), some (.loc 0), some (.loc 6), none, none, none, none, none]) (s' := S1) (by simp [a6']) ?_
    have st7 : ∀ (T : List D → Sto → Res D) (L WW TT : D), T [.int (names.length : Int), WW] S1 = .ok TT S1 → (sSet 7 (dCall T (aCons (dVar 2) (aCons (dVar 4) aNil)))) [some (.scr ns), some (.int x), some (.int (names.length : Int)), some L, some WW, some (.loc 0), some (.loc 6), none, none, none, none, none] S1 = .nx [some (.scr ns), some (.int x), some (.int (names.length : Int)), some L, some WW, some (.loc 0), some (.loc 6), some TT, none, none, none, none] S1 := fun T L WW TT tb => by
      simp only [sSet_eq, dCall_eq, aCons_eq, aNil_eq, dVar_eq, List.getElem?_cons_succ, List.getElem?_cons_zero, bind_ok, tb, out_ok, List.set]
    refine seq_step (δ' := E8 none none) (s' := S1) (st7 _ _ _ _ tb) ?_
    refine seq_step (δ' := E8 q8 q9) (s' := S2) (by
      rw [sFor_eq, it _ _ rfl, out_ok]
      exact f2) ?_
    refine seq_step (δ' := E11 none) (s' := S2) (by
      show (sSet 10 _) [some (.scr ns), some (.int x), some (.int (names.length : Int)), some (.lst (names.map D.str)), some (.lst (W.map wI)), some (.loc 0), some (.loc 6), some (tabD names.length W), q8, q9, none, none] S2 = .nx [some (.scr ns), some (.int x), some (.int (names.length : Int)), some (.lst (names.map D.str)), some (.lst (W.map wI)), some (.loc 0), some (.loc 6), some (tabD names.length W), q8, q9, some od, none] S2
      have n0 := i0 S2
      have ml : dLst (aCons (dC .non) (aCons (dC (.bl true)) (aCons (dC (.int 0)) (aCons (dC (.str [])) (aCons (dC (.str [65])) (aCons (dC (.str [110, 111, 119, 104, 101, 114, 101])) (aCons (dLst (aCons (dOp oIx (dVar 3) (dC (.int 0))) aNil)) (aCons (dTup aNil) (aCons (dC (.dct [] [])) aNil))))))))) [some (.scr ns), some (.int x), some (.int (names.length : Int)), some (.lst (names.map D.str)), some (.lst (W.map wI)), some (.loc 0), some (.loc 6), some (tabD names.length W), q8, q9, none, none] S2 = .ok (.lst [D.non, .bl true, .int 0, .str [], .str [65], .str nwh, .lst [.str z], .tup [], .dct [] []]) S2 := by
        generalize D.lst (names.map D.str) = L at n0
        have l1 : ([D.str z]).length ≤ lim := by simp [lim_eq]
        have l0 : ([] : List D).length ≤ lim := by decide
        have l9 : ([D.non, .bl true, .int 0, .str [], .str [65], .str [110, 111, 119, 104, 101, 114, 101], .lst [.str z], .tup [], .dct [] []]).length ≤ lim := by simp [lim_eq]
        simp only [dLst_eq, aCons_eq, aNil_eq, dC_eq, dOp_eq, dTup_eq, dVar_eq, List.getElem?_cons_succ, List.getElem?_cons_zero, bind_ok, n0]
        rw [if_pos l1]
        simp only [bind_ok]
        rw [if_pos l0]
        simp only [bind_ok]
        rw [if_pos l9]
        rfl
      have mx : dOp oMod (dOp oDiv (dVar 1) (dC (.int 1024))) (dC (.int 9)) [some (.scr ns), some (.int x), some (.int (names.length : Int)), some (.lst (names.map D.str)), some (.lst (W.map wI)), some (.loc 0), some (.loc 6), some (tabD names.length W), q8, q9, none, none] S2 = .ok (.int (x / 1024 % 9)) S2 := by simp
      rw [sSet_eq, dOp_eq, ml, bind_ok, mx, bind_ok, oIx_lst, h1]
      rfl) ?_
    refine seq_step (δ' := E11 (some (.int 1))) (s' := S2) (by
      have itt : itAny (dTup (aCons (dC (.int 0)) (aCons (dC (.int 1)) aNil))) (E11 none) S2 = .ok [.int 0, .int 1] S2 := by simp [lim_eq]
      rw [sFor_eq, itt, out_ok]
      rw [forL_next (δ1 := E11 (some (.int 0))) rfl (b3 0 (.inl rfl))]
      rw [forL_next (δ1 := E11 (some (.int 1))) rfl (b3 1 (.inr rfl))]
      rfl) ?_
    exact last
  have ef : f_law [.scr ns] [] = finO 0 (g_law [some (.scr ns), none, none, none, none, none, none, none, none, none, none, none] []) := by
    have e : ∀ G : DS, mkF 12 1 G [.scr ns] [] = finO 0 (G [some (.scr ns), none, none, none, none, none, none, none, none, none, none, none] []) := fun _ => rfl
    rw [← e]
    rfl
  rw [ef, key]
  show cut 0 (.bl true) S5 = _
  unfold Mp.cut
  split
  · rename_i q
    rw [List.length_eq_zero_iff.mp q]
  · rfl
end Rb
namespace Rb
open PySem PySem.Spec L2 Mp
/-! ### the head -/
def d_Net_stops : He.DefD := ⟨("Net", some "stops"), "stops", "Net.stops", defArgs s_Net_stops, defBody s_Net_stops, defScope s_Net_stops, [], []⟩
def d_Net_walks : He.DefD := ⟨("Net", some "walks"), "walks", "Net.walks", defArgs s_Net_walks, defBody s_Net_walks, defScope s_Net_walks, [], []⟩
def d_Feet___init__ : He.DefD := ⟨("Feet", some "__init__"), "__init__", "Feet.__init__", defArgs s_Feet___init__, defBody s_Feet___init__, defScope s_Feet___init__, [], []⟩
def d_Feet_need : He.DefD := ⟨("Feet", some "need"), "need", "Feet.need", defArgs s_Feet_need, defBody s_Feet_need, defScope s_Feet_need, [], []⟩
def d_Feet_sought : He.DefD := ⟨("Feet", some "sought"), "sought", "Feet.sought", defArgs s_Feet_sought, defBody s_Feet_sought, defScope s_Feet_sought, [], []⟩
def d_Feet_led : He.DefD := ⟨("Feet", some "led"), "led", "Feet.led", defArgs s_Feet_led, defBody s_Feet_led, defScope s_Feet_led, [], []⟩
def d_Feet_minutes : He.DefD := ⟨("Feet", some "minutes"), "minutes", "Feet.minutes", defArgs s_Feet_minutes, defBody s_Feet_minutes, defScope s_Feet_minutes, [], []⟩
def d_Feet_way : He.DefD := ⟨("Feet", some "way"), "way", "Feet.way", defArgs s_Feet_way, defBody s_Feet_way, defScope s_Feet_way, [], []⟩
def d_is_among : He.DefD := ⟨("is_among", none), "is_among", "is_among", defArgs s_is_among, defBody s_is_among, defScope s_is_among, [], []⟩
def d_is_name : He.DefD := ⟨("is_name", none), "is_name", "is_name", defArgs s_is_name, defBody s_is_name, defScope s_is_name, [], []⟩
def d_need_fresh : He.DefD := ⟨("need_fresh", none), "need_fresh", "need_fresh", defArgs s_need_fresh, defBody s_need_fresh, defScope s_need_fresh, [], []⟩
def d_need_among : He.DefD := ⟨("need_among", none), "need_among", "need_among", defArgs s_need_among, defBody s_need_among, defScope s_need_among, [], []⟩
def d_need_room : He.DefD := ⟨("need_room", none), "need_room", "need_room", defArgs s_need_room, defBody s_need_room, defScope s_need_room, [], []⟩
def d_Net___init__ : He.DefD := ⟨("Net", some "__init__"), "__init__", "Net.__init__", defArgs s_Net___init__, defBody s_Net___init__, defScope s_Net___init__, [], []⟩
def d_Net_need_stop : He.DefD := ⟨("Net", some "need_stop"), "need_stop", "Net.need_stop", defArgs s_Net_need_stop, defBody s_Net_need_stop, defScope s_Net_need_stop, [], []⟩
def d_Net_add_stop : He.DefD := ⟨("Net", some "add_stop"), "add_stop", "Net.add_stop", defArgs s_Net_add_stop, defBody s_Net_add_stop, defScope s_Net_add_stop, [], []⟩
def d_Net_add_walk : He.DefD := ⟨("Net", some "add_walk"), "add_walk", "Net.add_walk", defArgs s_Net_add_walk, defBody s_Net_add_walk, defScope s_Net_add_walk, [], []⟩
def d__law_draw : He.DefD := ⟨("_law_draw", none), "_law_draw", "_law_draw", defArgs s__law_draw, defBody s__law_draw, defScope s__law_draw, [], []⟩
def d__law_word : He.DefD := ⟨("_law_word", none), "_law_word", "_law_word", defArgs s__law_word, defBody s__law_word, defScope s__law_word, [], []⟩
def d__law_names : He.DefD := ⟨("_law_names", none), "_law_names", "_law_names", defArgs s__law_names, defBody s__law_names, defScope s__law_names, [], []⟩
def d__law_walks : He.DefD := ⟨("_law_walks", none), "_law_walks", "_law_walks", defArgs s__law_walks, defBody s__law_walks, defScope s__law_walks, [], []⟩
def d__law_net : He.DefD := ⟨("_law_net", none), "_law_net", "_law_net", defArgs s__law_net, defBody s__law_net, defScope s__law_net, [], []⟩
def d__law_table : He.DefD := ⟨("_law_table", none), "_law_table", "_law_table", defArgs s__law_table, defBody s__law_table, defScope s__law_table, [], []⟩
def d__law_way_right : He.DefD := ⟨("_law_way_right", none), "_law_way_right", "_law_way_right", defArgs s__law_way_right, defBody s__law_way_right, defScope s__law_way_right, [], []⟩
def d__law_right : He.DefD := ⟨("_law_right", none), "_law_right", "_law_right", defArgs s__law_right, defBody s__law_right, defScope s__law_right, [], []⟩
def d__law_refused : He.DefD := ⟨("_law_refused", none), "_law_refused", "_law_refused", defArgs s__law_refused, defBody s__law_refused, defScope s__law_refused, [], []⟩
def d__law_goes_on : He.DefD := ⟨("_law_goes_on", none), "_law_goes_on", "_law_goes_on", defArgs s__law_goes_on, defBody s__law_goes_on, defScope s__law_goes_on, [], []⟩
def d_law : He.DefD := ⟨("law", none), "law", "law", defArgs s_law, defBody s_law, defScope s_law, [], []⟩
def fn : List He.DefD := [d_Net_stops, d_Net_walks, d_Feet___init__, d_Feet_need, d_Feet_sought, d_Feet_led, d_Feet_minutes, d_Feet_way, d_is_among, d_is_name, d_need_fresh, d_need_among, d_need_room, d_Net___init__, d_Net_need_stop, d_Net_add_stop, d_Net_add_walk, d__law_draw, d__law_word, d__law_names, d__law_walks, d__law_net, d__law_table, d__law_way_right, d__law_right, d__law_refused, d__law_goes_on, d_law]
def fa : List He.Fa := [.glo "is_among", .glo "is_name", .glo "need_fresh", .glo "need_among", .glo "need_room", .glo "_law_draw", .glo "_law_word", .glo "_law_names", .glo "_law_walks", .glo "_law_net", .glo "_law_table", .glo "_law_way_right", .glo "_law_right", .glo "_law_refused", .glo "_law_goes_on", .glo "law", .mkr "Feet", .mkr "Net", .free "ValueError", .free "all", .free "bool", .free "dict", .free "enumerate", .free "int", .free "isinstance", .free "len", .free "list", .free "min", .free "range", .free "str", .free "zip", .str "LETTERS" (S [97, 98, 99, 100, 101, 102, 103, 104, 105, 106, 107, 108, 109, 110, 111, 112, 113, 114, 115, 116, 117, 118, 119, 120, 121, 122]), .int "MOST_LETTERS" 8, .int "MOST_STOPS" 8, .int "MOST_WALKS" 12, .int "MOST_ZONE" 6, .glo "RoadError", .glo "BadClock", .glo "BadRule", .glo "TooMany", .glo "BadName", .glo "Twice", .glo "NoStop", .glo "NoRule", .glo "NoTicket", .glo "NoTrip", .glo "BadNumber", .glo "BadCalls", .glo "NoRun", .glo "TooLate", .glo "NoTraveller", .glo "BadLine", .glo "BadRow", .glo "NoPlan", .glo "Feet", .glo "Net"]
abbrev R : PySem.W.OpenRow := PySem.W.OpenLaw.row PySem.Challenge.rw_roadbook_k11_minutes_on_foot
def mo0 : List (Str × Str × Str) := [("Net", "stops", "Net"), ("Net", "walks", "Net"), ("Feet", "need", "Feet"), ("Feet", "sought", "Feet"), ("Feet", "led", "Feet"), ("Net", "need_stop", "Net"), ("Net", "add_stop", "Net"), ("Net", "add_walk", "Net"), ("Feet", "minutes", "Feet"), ("Feet", "way", "Feet")]
def moL : List (Str × Str × Str) := mo0
abbrev m0L : List Str := []
def exK (K : PySem.W.Frag) : Bool := exB caT parT n1T K && (obB caT fmT csT 7 K && (kiB caT parA csT K && (moB moL K && mk0B m0L K)))
abbrev hk : PySem.W.Hook := Mp.hookE 5 fa fn exK
def ob (s : PySem.W.SharedT) : Mp.AlE := Mp.obsEG 5 fa fn exK (HandSHeadRun.getT s)
theorem ob_eq (s : PySem.W.SharedT) : ob s = hk.obs s.abs := Mp.obsEG_eq (HandSHeadRun.getT_eq s)
def loose0 : List Str := ["_wall", "RoadError", "BadClock", "BadRule", "TooMany", "BadName", "Twice", "NoStop", "NoRule", "NoTicket", "NoTrip", "BadNumber", "BadCalls", "NoRun", "TooLate", "NoTraveller", "BadLine", "BadRow", "NoPlan", "Feet", "is_among", "LETTERS", "MOST_LETTERS", "MOST_STOPS", "MOST_WALKS", "MOST_ZONE", "is_name", "need_fresh", "need_among", "need_room"]
def loose1 : List Str := ["Net", "_law_draw", "_law_word", "_law_names", "_law_walks", "_law_net", "_law_table", "_law_way_right", "_law_right", "_law_refused", "_law_goes_on"]
abbrev loose : List Str := loose0 ++ loose1
theorem run (w : World) : HandSHeadRun.RunEq R (PySem.W.view R.prog [46]) hk ob 8000 loose w := by
  intro os
  kernel_rfl
section
variable {P : Program} {w : World} {K : PySem.W.Frag} {h : Heap} {mg : Str → Option Value} {f : Addr}
theorem txt (X : K.In h) (G : h.Ns mainGlobals mg) (c : Mp.SaysE fa fn exK K) : Txt K mg where
  f_ValueError := He.free_ok X G (c.d.fact 18 (f := .free "ValueError") rfl)
  f_all := He.free_ok X G (c.d.fact 19 (f := .free "all") rfl)
  f_bool := He.free_ok X G (c.d.fact 20 (f := .free "bool") rfl)
  f_dict := He.free_ok X G (c.d.fact 21 (f := .free "dict") rfl)
  f_enumerate := He.free_ok X G (c.d.fact 22 (f := .free "enumerate") rfl)
  f_int := He.free_ok X G (c.d.fact 23 (f := .free "int") rfl)
  f_isinstance := He.free_ok X G (c.d.fact 24 (f := .free "isinstance") rfl)
  f_len := He.free_ok X G (c.d.fact 25 (f := .free "len") rfl)
  f_list := He.free_ok X G (c.d.fact 26 (f := .free "list") rfl)
  f_min := He.free_ok X G (c.d.fact 27 (f := .free "min") rfl)
  f_range := He.free_ok X G (c.d.fact 28 (f := .free "range") rfl)
  f_str := He.free_ok X G (c.d.fact 29 (f := .free "str") rfl)
  f_zip := He.free_ok X G (c.d.fact 30 (f := .free "zip") rfl)
  k_LETTERS := let ⟨t, e⟩ := He.str_ok X G (c.d.fact 31 (f := .str "LETTERS" (S [97, 98, 99, 100, 101, 102, 103, 104, 105, 106, 107, 108, 109, 110, 111, 112, 113, 114, 115, 116, 117, 118, 119, 120, 121, 122])) rfl); ⟨_, e, _, rfl⟩
  k_MOST_LETTERS := let ⟨t, e⟩ := He.int_ok X G (c.d.fact 32 (f := .int "MOST_LETTERS" 8) rfl); ⟨_, e, _, rfl⟩
  k_MOST_STOPS := let ⟨t, e⟩ := He.int_ok X G (c.d.fact 33 (f := .int "MOST_STOPS" 8) rfl); ⟨_, e, _, rfl⟩
  k_MOST_WALKS := let ⟨t, e⟩ := He.int_ok X G (c.d.fact 34 (f := .int "MOST_WALKS" 12) rfl); ⟨_, e, _, rfl⟩
  k_MOST_ZONE := let ⟨t, e⟩ := He.int_ok X G (c.d.fact 35 (f := .int "MOST_ZONE" 6) rfl); ⟨_, e, _, rfl⟩
  c_RoadError := He.glo_ok X G (c.d.fact 36 (f := .glo "RoadError") rfl)
  c_BadClock := He.glo_ok X G (c.d.fact 37 (f := .glo "BadClock") rfl)
  c_BadRule := He.glo_ok X G (c.d.fact 38 (f := .glo "BadRule") rfl)
  c_TooMany := He.glo_ok X G (c.d.fact 39 (f := .glo "TooMany") rfl)
  c_BadName := He.glo_ok X G (c.d.fact 40 (f := .glo "BadName") rfl)
  c_Twice := He.glo_ok X G (c.d.fact 41 (f := .glo "Twice") rfl)
  c_NoStop := He.glo_ok X G (c.d.fact 42 (f := .glo "NoStop") rfl)
  c_NoRule := He.glo_ok X G (c.d.fact 43 (f := .glo "NoRule") rfl)
  c_NoTicket := He.glo_ok X G (c.d.fact 44 (f := .glo "NoTicket") rfl)
  c_NoTrip := He.glo_ok X G (c.d.fact 45 (f := .glo "NoTrip") rfl)
  c_BadNumber := He.glo_ok X G (c.d.fact 46 (f := .glo "BadNumber") rfl)
  c_BadCalls := He.glo_ok X G (c.d.fact 47 (f := .glo "BadCalls") rfl)
  c_NoRun := He.glo_ok X G (c.d.fact 48 (f := .glo "NoRun") rfl)
  c_TooLate := He.glo_ok X G (c.d.fact 49 (f := .glo "TooLate") rfl)
  c_NoTraveller := He.glo_ok X G (c.d.fact 50 (f := .glo "NoTraveller") rfl)
  c_BadLine := He.glo_ok X G (c.d.fact 51 (f := .glo "BadLine") rfl)
  c_BadRow := He.glo_ok X G (c.d.fact 52 (f := .glo "BadRow") rfl)
  c_NoPlan := He.glo_ok X G (c.d.fact 53 (f := .glo "NoPlan") rfl)
  c_Feet := He.glo_ok X G (c.d.fact 54 (f := .glo "Feet") rfl)
  c_Net := He.glo_ok X G (c.d.fact 55 (f := .glo "Net") rfl)
  xt := exT_of (He.ba (show (exB caT parT n1T K && _) = true from c.more)).1
  ob := obT_of (He.ba (He.ba (show (exB caT parT n1T K && (obB caT fmT csT 7 K && _)) = true from c.more)).2).1 (by decide +kernel)
  ki := kiT_of (He.ba (He.ba (He.ba (show (exB caT parT n1T K && (obB caT fmT csT 7 K && (kiB caT parA csT K && _))) = true from c.more)).2).2).1
theorem mot (c : Mp.SaysE fa fn exK K) : moB moL K = true := (He.ba (He.ba (He.ba (He.ba (show (exB caT parT n1T K && (obB caT fmT csT 7 K && (kiB caT parA csT K && (moB moL K && mk0B m0L K)))) = true from c.more)).2).2).2).1
theorem ok_Net_stops {base : Heap} (X : K.In h) (G : h.Ns mainGlobals mg) (c : Mp.SaysE fa fn exK K) : Okd (tb K) P w mg base (He.fAd K ("Net", some "stops")) 1 1 f_Net_stops := by
  obtain ⟨fd, F⟩ := c.d.def_ 0 (d := d_Net_stops) rfl
  exact ⟨fd, ["self"], F.kp, F.bindsN fun _ _ _ _ _ _ us hl => match us, hl with | [_], _ => rfl, fn_d (T := tb K) F sc_Net_stops fun cdv A outer s H E hr => b_Net_stops (txt X G c)  cdv A outer s H E hr⟩
theorem ok_Net_walks {base : Heap} (X : K.In h) (G : h.Ns mainGlobals mg) (c : Mp.SaysE fa fn exK K) : Okd (tb K) P w mg base (He.fAd K ("Net", some "walks")) 1 1 f_Net_walks := by
  obtain ⟨fd, F⟩ := c.d.def_ 1 (d := d_Net_walks) rfl
  exact ⟨fd, ["self"], F.kp, F.bindsN fun _ _ _ _ _ _ us hl => match us, hl with | [_], _ => rfl, fn_d (T := tb K) F sc_Net_walks fun cdv A outer s H E hr => b_Net_walks (txt X G c)  cdv A outer s H E hr⟩
theorem ok_Feet___init__ {base : Heap} (X : K.In h) (G : h.Ns mainGlobals mg) (c : Mp.SaysE fa fn exK K) : Okd (tb K) P w mg base (He.fAd K ("Feet", some "__init__")) 2 2 f_Feet___init__ := by
  obtain ⟨fd, F⟩ := c.d.def_ 2 (d := d_Feet___init__) rfl
  exact ⟨fd, ["self", "net"], F.kp, F.bindsN fun _ _ _ _ _ _ us hl => match us, hl with | [_, _], _ => rfl, fn_d (T := tb K) F sc_Feet___init__ fun cdv A outer s H E hr => b_Feet___init__ (txt X G c) ((ok_Net_stops X G c).mc ((txt X G c).ob.cls 19 (by decide)) (mo_ok (mot c) (c := "Net") (m := "stops") (b := "Net") (by decide +kernel))) ((ok_Net_walks X G c).mc ((txt X G c).ob.cls 19 (by decide)) (mo_ok (mot c) (c := "Net") (m := "walks") (b := "Net") (by decide +kernel))) cdv A outer s H E hr⟩
theorem ok_Feet_need {base : Heap} (X : K.In h) (G : h.Ns mainGlobals mg) (c : Mp.SaysE fa fn exK K) : Okd (tb K) P w mg base (He.fAd K ("Feet", some "need")) 1 2 f_Feet_need := by
  obtain ⟨fd, F⟩ := c.d.def_ 3 (d := d_Feet_need) rfl
  exact ⟨fd, ["self", "stop"], F.kp, F.bindsN fun _ _ _ _ _ _ us hl => match us, hl with | [_, _], _ => rfl, fn_d (T := tb K) F sc_Feet_need fun cdv A outer s H E hr => b_Feet_need (txt X G c)  cdv A outer s H E hr⟩
theorem ok_Feet_sought {base : Heap} (X : K.In h) (G : h.Ns mainGlobals mg) (c : Mp.SaysE fa fn exK K) : Okd (tb K) P w mg base (He.fAd K ("Feet", some "sought")) 1 2 f_Feet_sought := by
  obtain ⟨fd, F⟩ := c.d.def_ 4 (d := d_Feet_sought) rfl
  exact ⟨fd, ["self", "start"], F.kp, F.bindsN fun _ _ _ _ _ _ us hl => match us, hl with | [_, _], _ => rfl, fn_d (T := tb K) F sc_Feet_sought fun cdv A outer s H E hr => b_Feet_sought (txt X G c)  cdv A outer s H E hr⟩
theorem ok_Feet_led {base : Heap} (X : K.In h) (G : h.Ns mainGlobals mg) (c : Mp.SaysE fa fn exK K) : Okd (tb K) P w mg base (He.fAd K ("Feet", some "led")) 2 3 f_Feet_led := by
  obtain ⟨fd, F⟩ := c.d.def_ 5 (d := d_Feet_led) rfl
  exact ⟨fd, ["self", "one", "other"], F.kp, F.bindsN fun _ _ _ _ _ _ us hl => match us, hl with | [_, _, _], _ => rfl, fn_d (T := tb K) F sc_Feet_led fun cdv A outer s H E hr => b_Feet_led (txt X G c) ((ok_Feet_need X G c).mc ((txt X G c).ob.cls 18 (by decide)) (mo_ok (mot c) (c := "Feet") (m := "need") (b := "Feet") (by decide +kernel))) ((ok_Feet_sought X G c).mc ((txt X G c).ob.cls 18 (by decide)) (mo_ok (mot c) (c := "Feet") (m := "sought") (b := "Feet") (by decide +kernel))) cdv A outer s H E hr⟩
theorem ok_Feet_minutes {base : Heap} (X : K.In h) (G : h.Ns mainGlobals mg) (c : Mp.SaysE fa fn exK K) : Okd (tb K) P w mg base (He.fAd K ("Feet", some "minutes")) 3 3 f_Feet_minutes := by
  obtain ⟨fd, F⟩ := c.d.def_ 6 (d := d_Feet_minutes) rfl
  exact ⟨fd, ["self", "one", "other"], F.kp, F.bindsN fun _ _ _ _ _ _ us hl => match us, hl with | [_, _, _], _ => rfl, fn_d (T := tb K) F sc_Feet_minutes fun cdv A outer s H E hr => b_Feet_minutes (txt X G c) ((ok_Feet_led X G c).mc ((txt X G c).ob.cls 18 (by decide)) (mo_ok (mot c) (c := "Feet") (m := "led") (b := "Feet") (by decide +kernel))) cdv A outer s H E hr⟩
theorem ok_Feet_way {base : Heap} (X : K.In h) (G : h.Ns mainGlobals mg) (c : Mp.SaysE fa fn exK K) : Okd (tb K) P w mg base (He.fAd K ("Feet", some "way")) 3 3 f_Feet_way := by
  obtain ⟨fd, F⟩ := c.d.def_ 7 (d := d_Feet_way) rfl
  exact ⟨fd, ["self", "one", "other"], F.kp, F.bindsN fun _ _ _ _ _ _ us hl => match us, hl with | [_, _, _], _ => rfl, fn_d (T := tb K) F sc_Feet_way fun cdv A outer s H E hr => b_Feet_way (txt X G c) ((ok_Feet_led X G c).mc ((txt X G c).ob.cls 18 (by decide)) (mo_ok (mot c) (c := "Feet") (m := "led") (b := "Feet") (by decide +kernel))) cdv A outer s H E hr⟩
theorem ok_is_among {base : Heap} (X : K.In h) (G : h.Ns mainGlobals mg) (c : Mp.SaysE fa fn exK K) : Okd (tb K) P w mg base (He.fAd K ("is_among", none)) 1 3 f_is_among := by
  obtain ⟨fd, F⟩ := c.d.def_ 8 (d := d_is_among) rfl
  exact ⟨fd, ["thing", "least", "most"], F.kp, F.bindsN fun _ _ _ _ _ _ us hl => match us, hl with | [_, _, _], _ => rfl, fn_d (T := tb K) F sc_is_among fun cdv A outer s H E hr => b_is_among (txt X G c)  cdv A outer s H E hr⟩
theorem ok_is_name {base : Heap} (X : K.In h) (G : h.Ns mainGlobals mg) (c : Mp.SaysE fa fn exK K) : Okd (tb K) P w mg base (He.fAd K ("is_name", none)) 1 1 f_is_name := by
  obtain ⟨fd, F⟩ := c.d.def_ 9 (d := d_is_name) rfl
  exact ⟨fd, ["thing"], F.kp, F.bindsN fun _ _ _ _ _ _ us hl => match us, hl with | [_], _ => rfl, fn_d (T := tb K) F sc_is_name fun cdv A outer s H E hr => b_is_name (txt X G c)  cdv A outer s H E hr⟩
theorem ok_need_fresh {base : Heap} (X : K.In h) (G : h.Ns mainGlobals mg) (c : Mp.SaysE fa fn exK K) : Okd (tb K) P w mg base (He.fAd K ("need_fresh", none)) 2 2 f_need_fresh := by
  obtain ⟨fd, F⟩ := c.d.def_ 10 (d := d_need_fresh) rfl
  exact ⟨fd, ["name", "kept"], F.kp, F.bindsN fun _ _ _ _ _ _ us hl => match us, hl with | [_, _], _ => rfl, fn_d (T := tb K) F sc_need_fresh fun cdv A outer s H E hr => b_need_fresh (txt X G c) ((ok_is_name X G c).cl (He.glo_ok X G (c.d.fact 1 (f := .glo "is_name") rfl))) cdv A outer s H E hr⟩
theorem ok_need_among {base : Heap} (X : K.In h) (G : h.Ns mainGlobals mg) (c : Mp.SaysE fa fn exK K) : Okd (tb K) P w mg base (He.fAd K ("need_among", none)) 2 3 f_need_among := by
  obtain ⟨fd, F⟩ := c.d.def_ 11 (d := d_need_among) rfl
  exact ⟨fd, ["thing", "least", "most"], F.kp, F.bindsN fun _ _ _ _ _ _ us hl => match us, hl with | [_, _, _], _ => rfl, fn_d (T := tb K) F sc_need_among fun cdv A outer s H E hr => b_need_among (txt X G c) ((ok_is_among X G c).cl (He.glo_ok X G (c.d.fact 0 (f := .glo "is_among") rfl))) cdv A outer s H E hr⟩
theorem ok_need_room {base : Heap} (X : K.In h) (G : h.Ns mainGlobals mg) (c : Mp.SaysE fa fn exK K) : Okd (tb K) P w mg base (He.fAd K ("need_room", none)) 1 2 f_need_room := by
  obtain ⟨fd, F⟩ := c.d.def_ 12 (d := d_need_room) rfl
  exact ⟨fd, ["kept", "most"], F.kp, F.bindsN fun _ _ _ _ _ _ us hl => match us, hl with | [_, _], _ => rfl, fn_d (T := tb K) F sc_need_room fun cdv A outer s H E hr => b_need_room (txt X G c)  cdv A outer s H E hr⟩
theorem ok_Net___init__ {base : Heap} (X : K.In h) (G : h.Ns mainGlobals mg) (c : Mp.SaysE fa fn exK K) : Okd (tb K) P w mg base (He.fAd K ("Net", some "__init__")) 1 1 f_Net___init__ := by
  obtain ⟨fd, F⟩ := c.d.def_ 13 (d := d_Net___init__) rfl
  exact ⟨fd, ["self"], F.kp, F.bindsN fun _ _ _ _ _ _ us hl => match us, hl with | [_], _ => rfl, fn_d (T := tb K) F sc_Net___init__ fun cdv A outer s H E hr => b_Net___init__ (txt X G c)  cdv A outer s H E hr⟩
theorem ok_Net_need_stop {base : Heap} (X : K.In h) (G : h.Ns mainGlobals mg) (c : Mp.SaysE fa fn exK K) : Okd (tb K) P w mg base (He.fAd K ("Net", some "need_stop")) 2 2 f_Net_need_stop := by
  obtain ⟨fd, F⟩ := c.d.def_ 14 (d := d_Net_need_stop) rfl
  exact ⟨fd, ["self", "stop"], F.kp, F.bindsN fun _ _ _ _ _ _ us hl => match us, hl with | [_, _], _ => rfl, fn_d (T := tb K) F sc_Net_need_stop fun cdv A outer s H E hr => b_Net_need_stop (txt X G c) ((ok_is_name X G c).cl (He.glo_ok X G (c.d.fact 1 (f := .glo "is_name") rfl))) cdv A outer s H E hr⟩
theorem ok_Net_add_stop {base : Heap} (X : K.In h) (G : h.Ns mainGlobals mg) (c : Mp.SaysE fa fn exK K) : Okd (tb K) P w mg base (He.fAd K ("Net", some "add_stop")) 3 4 f_Net_add_stop := by
  obtain ⟨fd, F⟩ := c.d.def_ 15 (d := d_Net_add_stop) rfl
  exact ⟨fd, ["self", "name", "zone", "change"], F.kp, F.bindsN fun _ _ _ _ _ _ us hl => match us, hl with | [_, _, _, _], _ => rfl, fn_d (T := tb K) F sc_Net_add_stop fun cdv A outer s H E hr => b_Net_add_stop (txt X G c) ((ok_need_fresh X G c).cl (He.glo_ok X G (c.d.fact 2 (f := .glo "need_fresh") rfl))) ((ok_need_among X G c).cl (He.glo_ok X G (c.d.fact 3 (f := .glo "need_among") rfl))) ((ok_need_room X G c).cl (He.glo_ok X G (c.d.fact 4 (f := .glo "need_room") rfl))) cdv A outer s H E hr⟩
theorem ok_Net_add_walk {base : Heap} (X : K.In h) (G : h.Ns mainGlobals mg) (c : Mp.SaysE fa fn exK K) : Okd (tb K) P w mg base (He.fAd K ("Net", some "add_walk")) 3 4 f_Net_add_walk := by
  obtain ⟨fd, F⟩ := c.d.def_ 16 (d := d_Net_add_walk) rfl
  exact ⟨fd, ["self", "one", "other", "minutes"], F.kp, F.bindsN fun _ _ _ _ _ _ us hl => match us, hl with | [_, _, _, _], _ => rfl, fn_d (T := tb K) F sc_Net_add_walk fun cdv A outer s H E hr => b_Net_add_walk (txt X G c) ((ok_need_among X G c).cl (He.glo_ok X G (c.d.fact 3 (f := .glo "need_among") rfl))) ((ok_need_room X G c).cl (He.glo_ok X G (c.d.fact 4 (f := .glo "need_room") rfl))) ((ok_Net_need_stop X G c).mc ((txt X G c).ob.cls 19 (by decide)) (mo_ok (mot c) (c := "Net") (m := "need_stop") (b := "Net") (by decide +kernel))) cdv A outer s H E hr⟩
theorem ok__law_draw {base : Heap} (X : K.In h) (G : h.Ns mainGlobals mg) (c : Mp.SaysE fa fn exK K) : Okd (tb K) P w mg base (He.fAd K ("_law_draw", none)) 1 2 f__law_draw := by
  obtain ⟨fd, F⟩ := c.d.def_ 17 (d := d__law_draw) rfl
  exact ⟨fd, ["_law_script", "_law_k"], F.kp, F.bindsN fun _ _ _ _ _ _ us hl => match us, hl with | [_, _], _ => rfl, fn_d (T := tb K) F sc__law_draw fun cdv A outer s H E hr => b__law_draw (txt X G c)  cdv A outer s H E hr⟩
theorem ok__law_word {base : Heap} (X : K.In h) (G : h.Ns mainGlobals mg) (c : Mp.SaysE fa fn exK K) : Okd (tb K) P w mg base (He.fAd K ("_law_word", none)) 1 1 f__law_word := by
  obtain ⟨fd, F⟩ := c.d.def_ 18 (d := d__law_word) rfl
  exact ⟨fd, ["_law_e"], F.kp, F.bindsN fun _ _ _ _ _ _ us hl => match us, hl with | [_], _ => rfl, fn_d (T := tb K) F sc__law_word fun cdv A outer s H E hr => b__law_word (txt X G c)  cdv A outer s H E hr⟩
theorem ok__law_names {base : Heap} (X : K.In h) (G : h.Ns mainGlobals mg) (c : Mp.SaysE fa fn exK K) : Okd (tb K) P w mg base (He.fAd K ("_law_names", none)) 2 3 f__law_names := by
  obtain ⟨fd, F⟩ := c.d.def_ 19 (d := d__law_names) rfl
  exact ⟨fd, ["_law_script", "_law_k", "_law_many"], F.kp, F.bindsN fun _ _ _ _ _ _ us hl => match us, hl with | [_, _, _], _ => rfl, fn_d (T := tb K) F sc__law_names fun cdv A outer s H E hr => b__law_names (txt X G c) ((ok__law_draw X G c).cl (He.glo_ok X G (c.d.fact 5 (f := .glo "_law_draw") rfl))) cdv A outer s H E hr⟩
theorem ok__law_walks {base : Heap} (X : K.In h) (G : h.Ns mainGlobals mg) (c : Mp.SaysE fa fn exK K) : Okd (tb K) P w mg base (He.fAd K ("_law_walks", none)) 2 4 f__law_walks := by
  obtain ⟨fd, F⟩ := c.d.def_ 20 (d := d__law_walks) rfl
  exact ⟨fd, ["_law_script", "_law_k", "_law_many", "_law_most"], F.kp, F.bindsN fun _ _ _ _ _ _ us hl => match us, hl with | [_, _, _, _], _ => rfl, fn_d (T := tb K) F sc__law_walks fun cdv A outer s H E hr => b__law_walks (txt X G c) ((ok__law_draw X G c).cl (He.glo_ok X G (c.d.fact 5 (f := .glo "_law_draw") rfl))) cdv A outer s H E hr⟩
theorem ok__law_net {base : Heap} (X : K.In h) (G : h.Ns mainGlobals mg) (c : Mp.SaysE fa fn exK K) : Okd (tb K) P w mg base (He.fAd K ("_law_net", none)) 4 2 f__law_net := by
  obtain ⟨fd, F⟩ := c.d.def_ 21 (d := d__law_net) rfl
  exact ⟨fd, ["_law_names_here", "_law_walks_here"], F.kp, F.bindsN fun _ _ _ _ _ _ us hl => match us, hl with | [_, _], _ => rfl, fn_d (T := tb K) F sc__law_net fun cdv A outer s H E hr => b__law_net (txt X G c) ((ok_Net_add_stop X G c).mc ((txt X G c).ob.cls 19 (by decide)) (mo_ok (mot c) (c := "Net") (m := "add_stop") (b := "Net") (by decide +kernel))) ((ok_Net_add_walk X G c).mc ((txt X G c).ob.cls 19 (by decide)) (mo_ok (mot c) (c := "Net") (m := "add_walk") (b := "Net") (by decide +kernel))) ((ok_Net___init__ X G c).mkr (He.mkr_ok (c.d.fact 17 (f := .mkr "Net") rfl)) (He.glo_ok X G (c.d.fact 55 (f := .glo "Net") rfl))) cdv A outer s H E hr⟩
theorem ok__law_table {base : Heap} (X : K.In h) (G : h.Ns mainGlobals mg) (c : Mp.SaysE fa fn exK K) : Okd (tb K) P w mg base (He.fAd K ("_law_table", none)) 1 2 f__law_table := by
  obtain ⟨fd, F⟩ := c.d.def_ 22 (d := d__law_table) rfl
  exact ⟨fd, ["_law_many", "_law_walks_here"], F.kp, F.bindsN fun _ _ _ _ _ _ us hl => match us, hl with | [_, _], _ => rfl, fn_d (T := tb K) F sc__law_table fun cdv A outer s H E hr => b__law_table (txt X G c)  cdv A outer s H E hr⟩
theorem ok__law_way_right {base : Heap} (X : K.In h) (G : h.Ns mainGlobals mg) (c : Mp.SaysE fa fn exK K) : Okd (tb K) P w mg base (He.fAd K ("_law_way_right", none)) 1 6 f__law_way_right := by
  obtain ⟨fd, F⟩ := c.d.def_ 23 (d := d__law_way_right) rfl
  exact ⟨fd, ["_law_way", "_law_names_here", "_law_walks_here", "_law_one", "_law_other", "_law_due"], F.kp, F.bindsN fun _ _ _ _ _ _ us hl => match us, hl with | [_, _, _, _, _, _], _ => rfl, fn_d (T := tb K) F sc__law_way_right fun cdv A outer s H E hr => b__law_way_right (txt X G c)  cdv A outer s H E hr⟩
theorem ok__law_right {base : Heap} (X : K.In h) (G : h.Ns mainGlobals mg) (c : Mp.SaysE fa fn exK K) : Okd (tb K) P w mg base (He.fAd K ("_law_right", none)) 4 6 f__law_right := by
  obtain ⟨fd, F⟩ := c.d.def_ 24 (d := d__law_right) rfl
  exact ⟨fd, ["_law_feet", "_law_names_here", "_law_walks_here", "_law_table_here", "_law_one", "_law_other"], F.kp, F.bindsN fun _ _ _ _ _ _ us hl => match us, hl with | [_, _, _, _, _, _], _ => rfl, fn_d (T := tb K) F sc__law_right fun cdv A outer s H E hr => b__law_right (txt X G c) ((ok__law_way_right X G c).cl (He.glo_ok X G (c.d.fact 11 (f := .glo "_law_way_right") rfl))) ((ok_Feet_minutes X G c).mc ((txt X G c).ob.cls 18 (by decide)) (mo_ok (mot c) (c := "Feet") (m := "minutes") (b := "Feet") (by decide +kernel))) ((ok_Feet_way X G c).mc ((txt X G c).ob.cls 18 (by decide)) (mo_ok (mot c) (c := "Feet") (m := "way") (b := "Feet") (by decide +kernel))) cdv A outer s H E hr⟩
theorem ok__law_refused {base : Heap} (X : K.In h) (G : h.Ns mainGlobals mg) (c : Mp.SaysE fa fn exK K) : Okd (tb K) P w mg base (He.fAd K ("_law_refused", none)) 4 4 f__law_refused := by
  obtain ⟨fd, F⟩ := c.d.def_ 25 (d := d__law_refused) rfl
  exact ⟨fd, ["_law_feet", "_law_way", "_law_one", "_law_other"], F.kp, F.bindsN fun _ _ _ _ _ _ us hl => match us, hl with | [_, _, _, _], _ => rfl, fn_d (T := tb K) F sc__law_refused fun cdv A outer s H E hr => b__law_refused (txt X G c) ((ok__law_word X G c).cl (He.glo_ok X G (c.d.fact 6 (f := .glo "_law_word") rfl))) ((ok_Feet_minutes X G c).mc ((txt X G c).ob.cls 18 (by decide)) (mo_ok (mot c) (c := "Feet") (m := "minutes") (b := "Feet") (by decide +kernel))) ((ok_Feet_way X G c).mc ((txt X G c).ob.cls 18 (by decide)) (mo_ok (mot c) (c := "Feet") (m := "way") (b := "Feet") (by decide +kernel))) cdv A outer s H E hr⟩
theorem ok__law_goes_on {base : Heap} (X : K.In h) (G : h.Ns mainGlobals mg) (c : Mp.SaysE fa fn exK K) : Okd (tb K) P w mg base (He.fAd K ("_law_goes_on", none)) 5 5 f__law_goes_on := by
  obtain ⟨fd, F⟩ := c.d.def_ 26 (d := d__law_goes_on) rfl
  exact ⟨fd, ["_law_net_here", "_law_feet", "_law_names_here", "_law_walks_here", "_law_table_here"], F.kp, F.bindsN fun _ _ _ _ _ _ us hl => match us, hl with | [_, _, _, _, _], _ => rfl, fn_d (T := tb K) F sc__law_goes_on fun cdv A outer s H E hr => b__law_goes_on (txt X G c) ((ok__law_refused X G c).cl (He.glo_ok X G (c.d.fact 13 (f := .glo "_law_refused") rfl))) ((ok__law_right X G c).cl (He.glo_ok X G (c.d.fact 12 (f := .glo "_law_right") rfl))) ((ok_Net_add_stop X G c).mc ((txt X G c).ob.cls 19 (by decide)) (mo_ok (mot c) (c := "Net") (m := "add_stop") (b := "Net") (by decide +kernel))) ((ok_Net_add_walk X G c).mc ((txt X G c).ob.cls 19 (by decide)) (mo_ok (mot c) (c := "Net") (m := "add_walk") (b := "Net") (by decide +kernel))) ((ok_Feet_minutes X G c).mc ((txt X G c).ob.cls 18 (by decide)) (mo_ok (mot c) (c := "Feet") (m := "minutes") (b := "Feet") (by decide +kernel))) ((ok_Feet___init__ X G c).mkr (He.mkr_ok (c.d.fact 16 (f := .mkr "Feet") rfl)) (He.glo_ok X G (c.d.fact 54 (f := .glo "Feet") rfl))) cdv A outer s H E hr⟩
theorem facts (X : K.In h) (G : h.Ns mainGlobals mg) (hfa : mg ("law" : Str) = some (.ref f)) (c : Mp.SaysE fa fn exK K) :
    ∃ fd : FuncData, (∀ (s : Shared) (v : Value), BindsTo s fd ⟨[v], []⟩ [("_law_script", v)]) ∧ ∀ base : Heap, K.In base → base.Ns mainGlobals mg → FnOk P w K mg base (L2.CX P w) 6 f fd ["_law_script"] (spD (tb K) 1 f_law) := by
  obtain ⟨fd, F⟩ := c.d.def_ 27 (d := d_law) rfl
  have e := hfa.symm.trans (He.glo_ok X G (c.d.fact 15 (f := .glo "law") rfl))
  cases e
  have b := FunD.bindsA (ps := ["_law_script"]) F fun _ _ _ _ _ _ us hl => match us, hl with | [_], _ => rfl
  exact ⟨fd, fun s v => b s [v] rfl, fun base _ _ => fn_d (T := tb K) F sc_law fun cdv A outer s H E hr => b_law (txt X G c) ((ok__law_draw X G c).cl (He.glo_ok X G (c.d.fact 5 (f := .glo "_law_draw") rfl))) ((ok__law_names X G c).cl (He.glo_ok X G (c.d.fact 7 (f := .glo "_law_names") rfl))) ((ok__law_walks X G c).cl (He.glo_ok X G (c.d.fact 8 (f := .glo "_law_walks") rfl))) ((ok__law_net X G c).cl (He.glo_ok X G (c.d.fact 9 (f := .glo "_law_net") rfl))) ((ok__law_table X G c).cl (He.glo_ok X G (c.d.fact 10 (f := .glo "_law_table") rfl))) ((ok__law_right X G c).cl (He.glo_ok X G (c.d.fact 12 (f := .glo "_law_right") rfl))) ((ok__law_refused X G c).cl (He.glo_ok X G (c.d.fact 13 (f := .glo "_law_refused") rfl))) ((ok__law_goes_on X G c).cl (He.glo_ok X G (c.d.fact 14 (f := .glo "_law_goes_on") rfl))) ((ok_Feet___init__ X G c).mkr (He.mkr_ok (c.d.fact 16 (f := .mkr "Feet") rfl)) (He.glo_ok X G (c.d.fact 54 (f := .glo "Feet") rfl))) cdv A outer s H E hr⟩
end
end Rb
/-! ### the end -/
open PySem PySem.W PySem.Calls PyProof.Rows in
theorem PySem.Challenge.cw_roadbook_k11_minutes_on_foot_holds : PySem.Challenge.rw_roadbook_k11_minutes_on_foot.Holds := by
  w_on; o_law
  refine HandSHeadRun.head_any (r := OpenLaw.row PySem.Challenge.rw_roadbook_k11_minutes_on_foot) (q := view (OpenLaw.row PySem.Challenge.rw_roadbook_k11_minutes_on_foot).prog [46]) (H := Rb.hk) (ob := Rb.ob) (M := 8000) (loose := Rb.loose) (d := HandSHeadRun.topDef (OpenLaw.row PySem.Challenge.rw_roadbook_k11_minutes_on_foot).prog 46) (kwd := []) Rb.ob_eq
    (by kernel_rfl) (fun s => by kernel_rfl) Rb.run (by kernel_rfl) (by kernel_rfl) (by kernel_rfl) (by rfl) (by first | assumption | decide +kernel) (by decide +kernel) ⟨rfl, rfl, rfl, rfl, rfl, by decide +kernel⟩ ?hw ?hc
  case hw => w_witness2
  case hc =>
    refine Mp.law_walks (l := PySem.Challenge.rw_roadbook_k11_minutes_on_foot) (k := 6) (x := "_law_script") rfl (by kernel_rfl) ⟨rfl, by decide, by decide⟩ ?F
    intro w mg fa h Y G hmg0
    obtain ⟨K, KX, c⟩ := Y
    have hmg : mg ("law" : PySem.Str) = some (.ref fa) := by
      have e : (HandSHeadRun.topDef (OpenLaw.row PySem.Challenge.rw_roadbook_k11_minutes_on_foot).prog 46).name = ("law" : PySem.Str) := by kernel_rfl
      rw [← e]; exact hmg0
    obtain ⟨fd, hb, hF⟩ := Rb.facts (P := (PySem.Challenge.rw_roadbook_k11_minutes_on_foot).prog) (w := w) KX G hmg c
    exact ⟨K, fd, _, KX, hb, fun H a ns hl hO hS => Mp.law_end (k := 0) hO hS (Rb.pure_law ns hl), hF⟩
