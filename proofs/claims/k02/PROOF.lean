import PyProof.Rows.All
import Wide.All
import OpenK.AllK
import Wide.FinOn
import HandS.ForMost
import HandS.Exc
import HandS.TryOnly
import HandS.ExcOwn
import HandS.WordsExc
import HandS.IsInst
import HandS.ExcIs
import HandS.CallSlots
import HandS.Defaults
import HandS.StrMore
import HandS.FStr
import HandS.Replace
import HandS.HeadEnd
import HandS.Head0
import HandS.Head1
import HandS.Head2
import HandS.HeadHook1
import HandS.HeadHook2
import HandS.HeadHook3
import HandS.HeadHook4
import HandS.Walk
import HandS.Zip
import HandS.Flow
import HandS.SetFor
import HandS.Conv
import HandS.ReplaceLit
import HandS.List
import HandS.Codes
import PySem.Challenge.RW_roadbook_k02_moments
set_option Elab.async false
set_option linter.all false
set_option maxRecDepth 100000
set_option maxHeartbeats 4000000
/-! # MpA -/
namespace Mp
open PySem PySem.Spec L2

/-! ## deep values, cells -/
inductive D where
  | non | bl (b : Bool) | int (i : Int) | str (s : List Nat)
  | tup (xs : List D) | lst (xs : List D) | scr (ns : List Int) | dct (ks vs : List D)
  | obj (c : Nat) (ns : List Nat) (vs : List D)
  | loc (n : Nat) | exc (c : Nat) | cls (c : Nat) | ty (n : String)
instance : Inhabited D := ⟨.non⟩
inductive Cell where
  | dead | lst (xs : List D) | dct (ks vs : List D) | obj (c : Nat) (ns : List Nat) (vs : List D)
abbrev Sto := List Cell
abbrev Env := List (Option D)
def Cell.live : Cell → Bool
  | .dead => false
  | _ => true
/-- codes to a text -/
def S (cs : List Nat) : Str := ⟨cs.toArray⟩
theorem S_len (cs : List Nat) : (S cs).length = cs.length := by simp [S, Str.length]
theorem S_inj {a b : List Nat} (h : S a = S b) : a = b := by
  have e : (S a).cps.toList = (S b).cps.toList := by rw [h]
  simpa [S] using e
theorem S_cat (a b : List Nat) : S a ++ S b = S (a ++ b) := by
  show (⟨a.toArray ++ b.toArray⟩ : Str) = ⟨(a ++ b).toArray⟩
  simp
/-- the tables: the written part, where classes stand, the fields' names -/
structure Tb where
  K : PySem.W.Frag
  ca : Nat → Addr
  fm : Nat → Str

/-- a caught exception that is kept as a value -/
def ExV (cls : Value) (a : Addr) : HO := .ext fun h => ∃ oe : Obj, h.get? a = some oe ∧ Zc cls none oe ∧ ∃ vs, oe.data = .fields vs

def kD : Key → D
  | .inl i => .int i
  | .inr x => .str x.cps.toList
mutual
/-- v stands for the deep value, over the part F of the heap that does not change; ι: where the cells are -/
def Rp (T : Tb) (F : Hp) (ι : List Addr) : D → V → Prop
  | .non, v => v = .non
  | .bl b, v => v = .bl b
  | .int i, v => v = .int i
  | .str s, v => v = .str (S s)
  | .tup xs, v => ∃ a vs, v = .ref a ∧ F a = some (.tup vs) ∧ Rps T F ι xs vs
  | .lst xs, v => ∃ a vs, v = .ref a ∧ F a = some (.lst vs) ∧ Rps T F ι xs vs
  | .scr ns, v => ∃ a, v = .ref a ∧ SqL T.K F a (ns.map V.int)
  | .dct ks xs, v => ∃ a kvs, v = .ref a ∧ Rd F a (.dK kvs) ∧ ks = kvs.map (fun p => kD p.1) ∧ Rps T F ι xs (kvs.map (·.2))
  | .obj c ns xs, v => ∃ a dx fs, v = .ref a ∧ F a = some (.ins (T.ca c) dx fs) ∧ fs.map (·.1) = ns.map T.fm ∧ Rps T F ι xs (fs.map (·.2))
  | .loc n, v => ∃ a, ι[n]? = some a ∧ v = .ref a
  | .exc c, v => ∃ a, v = .ref a ∧ F a = some (ExV (.ref (T.ca c)) a)
  | .cls c, v => v = .ref (T.ca c)
  | .ty n, v => v = .ty n
def Rps (T : Tb) (F : Hp) (ι : List Addr) : List D → List V → Prop
  | [], vs => vs = []
  | x :: xs, vs => ∃ v r, vs = v :: r ∧ Rp T F ι x v ∧ Rps T F ι xs r
end
def Grow (F : Hp) (ι : List Addr) (F' : Hp) (ι' : List Addr) : Prop := (∀ a o, F a = some o → F' a = some o) ∧ ∃ more, ι' = ι ++ more
theorem Grow.refl (F : Hp) (ι : List Addr) : Grow F ι F ι := ⟨fun _ _ h => h, [], by simp⟩
theorem Grow.trans {F F1 F2 : Hp} {ι ι1 ι2 : List Addr} (a : Grow F ι F1 ι1) (b : Grow F1 ι1 F2 ι2) : Grow F ι F2 ι2 := by
  obtain ⟨a1, m, e⟩ := a
  obtain ⟨b1, n, f⟩ := b
  exact ⟨fun x o h => b1 x o (a1 x o h), m ++ n, by rw [f, e, List.append_assoc]⟩
theorem Grow.at {F F' : Hp} {ι ι' : List Addr} (g : Grow F ι F' ι') {n : Nat} {a : Addr} (h : ι[n]? = some a) : ι'[n]? = some a := by
  obtain ⟨_, m, rfl⟩ := g
  rw [List.getElem?_append_left (List.getElem?_eq_some_iff.mp h).1]
  exact h
theorem rd_mono {F F' : Hp} (g : ∀ a o, F a = some o → F' a = some o) {a : Addr} {u : HO} (h : Rd F a u) : Rd F' a u := by
  rcases h with h | ⟨o, h⟩
  · exact .inl (g _ _ h)
  · exact .inr ⟨o, g _ _ h⟩
theorem sql_mono {K : PySem.W.Frag} {F F' : Hp} (g : ∀ a o, F a = some o → F' a = some o) {a : Addr} {xs : List V} (h : SqL K F a xs) : SqL K F' a xs := by
  rcases h with h | h
  · exact .inl (rd_mono g h)
  · exact .inr h
mutual
theorem Rp.mono {T : Tb} {F F' : Hp} {ι ι' : List Addr} (g : Grow F ι F' ι') : ∀ {d : D} {v : V}, Rp T F ι d v → Rp T F' ι' d v
  | .non, _, h => by unfold Rp at h ⊢; exact h
  | .bl _, _, h => by unfold Rp at h ⊢; exact h
  | .int _, _, h => by unfold Rp at h ⊢; exact h
  | .str _, _, h => by unfold Rp at h ⊢; exact h
  | .tup xs, v, h => by
    unfold Rp at h ⊢
    obtain ⟨a, vs, e, q, r⟩ := h
    exact ⟨a, vs, e, g.1 _ _ q, Rps.mono g r⟩
  | .lst xs, v, h => by
    unfold Rp at h ⊢
    obtain ⟨a, vs, e, q, r⟩ := h
    exact ⟨a, vs, e, g.1 _ _ q, Rps.mono g r⟩
  | .scr ns, v, h => by
    unfold Rp at h ⊢
    obtain ⟨a, e, q⟩ := h
    exact ⟨a, e, sql_mono g.1 q⟩
  | .dct ks xs, v, h => by
    unfold Rp at h ⊢
    obtain ⟨a, kvs, e, q, k, r⟩ := h
    exact ⟨a, kvs, e, rd_mono g.1 q, k, Rps.mono g r⟩
  | .obj c ns xs, v, h => by
    unfold Rp at h ⊢
    obtain ⟨a, dx, fs, e, q, k, r⟩ := h
    exact ⟨a, dx, fs, e, g.1 _ _ q, k, Rps.mono g r⟩
  | .loc n, v, h => by
    unfold Rp at h ⊢
    obtain ⟨a, q, e⟩ := h
    exact ⟨a, g.at q, e⟩
  | .exc c, v, h => by
    unfold Rp at h ⊢
    obtain ⟨a, e, q⟩ := h
    exact ⟨a, e, g.1 _ _ q⟩
  | .cls _, _, h => by unfold Rp at h ⊢; exact h
  | .ty _, _, h => by unfold Rp at h ⊢; exact h
theorem Rps.mono {T : Tb} {F F' : Hp} {ι ι' : List Addr} (g : Grow F ι F' ι') : ∀ {ds : List D} {vs : List V}, Rps T F ι ds vs → Rps T F' ι' ds vs
  | [], _, h => by unfold Rps at h ⊢; exact h
  | x :: xs, vs, h => by
    unfold Rps at h ⊢
    obtain ⟨v, r, e, p, q⟩ := h
    exact ⟨v, r, e, Rp.mono g p, Rps.mono g q⟩
end
theorem Rps.len {T : Tb} {F : Hp} {ι : List Addr} : ∀ {ds : List D} {vs : List V}, Rps T F ι ds vs → ds.length = vs.length
  | [], _, h => by unfold Rps at h; subst h; rfl
  | x :: xs, vs, h => by
    unfold Rps at h
    obtain ⟨v, r, rfl, _, q⟩ := h
    simp [q.len]
theorem Rps.get {T : Tb} {F : Hp} {ι : List Addr} : ∀ {ds : List D} {vs : List V} {i : Nat} {d : D}, Rps T F ι ds vs → ds[i]? = some d → ∃ v, vs[i]? = some v ∧ Rp T F ι d v
  | [], _, _, _, _, e => by simp at e
  | x :: xs, vs, 0, d, h, e => by
    unfold Rps at h
    obtain ⟨v, r, rfl, p, _⟩ := h
    simp at e
    subst e
    exact ⟨v, rfl, p⟩
  | x :: xs, vs, i + 1, d, h, e => by
    unfold Rps at h
    obtain ⟨v, r, rfl, _, q⟩ := h
    obtain ⟨u, e1, e2⟩ := q.get (i := i) (by simpa using e)
    exact ⟨u, by simpa using e1, e2⟩
theorem Rps.nil {T : Tb} {F : Hp} {ι : List Addr} : Rps T F ι [] [] := by unfold Rps; rfl
theorem Rps.cons {T : Tb} {F : Hp} {ι : List Addr} {d : D} {v : V} {ds : List D} {vs : List V} (h : Rp T F ι d v) (r : Rps T F ι ds vs) : Rps T F ι (d :: ds) (v :: vs) := by
  unfold Rps
  exact ⟨v, vs, rfl, h, r⟩
theorem Rps.app {T : Tb} {F : Hp} {ι : List Addr} : ∀ {ds es : List D} {vs us : List V}, Rps T F ι ds vs → Rps T F ι es us → Rps T F ι (ds ++ es) (vs ++ us)
  | [], _, _, _, h, k => by unfold Rps at h; subst h; exact k
  | x :: xs, es, vs, us, h, k => by
    unfold Rps at h
    obtain ⟨v, r, rfl, p, q⟩ := h
    exact .cons p (q.app k)
theorem Rps.take {T : Tb} {F : Hp} {ι : List Addr} : ∀ {ds : List D} {vs : List V} (n : Nat), Rps T F ι ds vs → Rps T F ι (ds.take n) (vs.take n)
  | _, _, 0, _ => by simpa using Rps.nil
  | [], _, n + 1, h => by unfold Rps at h; subst h; simpa using Rps.nil
  | x :: xs, vs, n + 1, h => by
    unfold Rps at h
    obtain ⟨v, r, rfl, p, q⟩ := h
    simpa using Rps.cons p (q.take n)
theorem Rps.drop {T : Tb} {F : Hp} {ι : List Addr} : ∀ {ds : List D} {vs : List V} (n : Nat), Rps T F ι ds vs → Rps T F ι (ds.drop n) (vs.drop n)
  | _, _, 0, h => by simpa using h
  | [], _, n + 1, h => by unfold Rps at h; subst h; simpa using Rps.nil
  | x :: xs, vs, n + 1, h => by
    unfold Rps at h
    obtain ⟨v, r, rfl, p, q⟩ := h
    simpa using q.drop n
theorem Rps.set {T : Tb} {F : Hp} {ι : List Addr} {d : D} {v : V} (h : Rp T F ι d v) : ∀ {ds : List D} {vs : List V} (n : Nat), Rps T F ι ds vs → Rps T F ι (ds.set n d) (vs.set n v)
  | [], _, n, k => by unfold Rps at k; subst k; simpa using Rps.nil
  | x :: xs, vs, 0, k => by
    unfold Rps at k
    obtain ⟨v, r, rfl, p, q⟩ := k
    exact .cons h q
  | x :: xs, vs, n + 1, k => by
    unfold Rps at k
    obtain ⟨v, r, rfl, p, q⟩ := k
    exact .cons p (q.set h n)

/-! ## the store and the heap -/
def CellAt (T : Tb) (ι : List Addr) (F H : Hp) (a : Addr) : Cell → Prop
  | .dead => True
  | .lst xs => F a = none ∧ ∃ vs, H a = some (.lst vs) ∧ Rps T F ι xs vs
  | .dct ks xs => F a = none ∧ ∃ kvs, H a = some (.dK kvs) ∧ ks = kvs.map (fun p => kD p.1) ∧ Rps T F ι xs (kvs.map (·.2))
  | .obj c ns xs => F a = none ∧ ∃ dx fs, H a = some (.ins (T.ca c) dx fs) ∧ fs.map (·.1) = ns.map T.fm ∧ Rps T F ι xs (fs.map (·.2))
structure RelH (T : Tb) (P : Hp) (ι : List Addr) (F : Hp) (s : Sto) (H : Hp) : Prop where
  sub : ∀ a o, F a = some o → H a = some o
  pro : ∀ a o, P a = some o → H a = some o
  dis : ∀ a o, P a = some o → F a = none
  len : ι.length = s.length
  cell : ∀ (n : Nat) c a, s[n]? = some c → ι[n]? = some a → CellAt T ι F H a c
  npr : ∀ (n : Nat) c a, s[n]? = some c → c.live = true → ι[n]? = some a → P a = none
  nod : ∀ (n m : Nat) c c' a, s[n]? = some c → s[m]? = some c' → c.live = true → c'.live = true → ι[n]? = some a → ι[m]? = some a → n = m
structure REnv (T : Tb) (F : Hp) (ι : List Addr) (δ : Env) (σ : L2.St) : Prop where
  len : δ.length = σ.length
  at_ : ∀ (i : Nat) d, δ[i]? = some (some d) → ∃ v, σ[i]? = some (some v) ∧ Rp T F ι d v
theorem REnv.mono {T : Tb} {F F' : Hp} {ι ι' : List Addr} {δ : Env} {σ : L2.St} (e : REnv T F ι δ σ) (g : Grow F ι F' ι') : REnv T F' ι' δ σ :=
  ⟨e.len, fun i d h => let ⟨v, e1, e2⟩ := e.at_ i d h; ⟨v, e1, e2.mono g⟩⟩
theorem REnv.set {T : Tb} {F : Hp} {ι : List Addr} {δ : Env} {σ : L2.St} {d : D} {v : V} (e : REnv T F ι δ σ) (h : Rp T F ι d v) (i : Nat) : REnv T F ι (δ.set i (some d)) (σ.set i (some v)) := by
  refine ⟨by simp [e.len], fun j d' hj => ?_⟩
  by_cases c : i = j
  · subst c
    have hl : i < δ.length := by
      have := (List.getElem?_eq_some_iff.mp hj).1
      simpa using this
    rw [List.getElem?_set_self hl] at hj
    cases hj
    exact ⟨v, by rw [List.getElem?_set_self (by rw [← e.len]; exact hl)], h⟩
  · rw [List.getElem?_set_ne c] at hj
    obtain ⟨u, e1, e2⟩ := e.at_ j d' hj
    exact ⟨u, by rw [List.getElem?_set_ne c]; exact e1, e2⟩
theorem REnv.unset {T : Tb} {F : Hp} {ι : List Addr} {δ : Env} {σ : L2.St} {o : Option V} (e : REnv T F ι δ σ) (i : Nat) : REnv T F ι (δ.set i none) (σ.set i o) := by
  refine ⟨by simp [e.len], fun j d' hj => ?_⟩
  by_cases c : i = j
  · subst c
    have hl : i < δ.length := by
      have := (List.getElem?_eq_some_iff.mp hj).1
      simpa using this
    rw [List.getElem?_set_self hl] at hj
    cases hj
  · rw [List.getElem?_set_ne c] at hj
    obtain ⟨u, e1, e2⟩ := e.at_ j d' hj
    exact ⟨u, by rw [List.getElem?_set_ne c]; exact e1, e2⟩

section
variable {T : Tb} {P : Hp} {ι : List Addr} {F : Hp} {s : Sto} {H : Hp}
theorem CellAt.grow {ι' : List Addr} {F' H' : Hp} {a : Addr} {c : Cell} (h : CellAt T ι F H a c) (g : Grow F ι F' ι') (hF : c.live = true → F' a = F a) (hH : c.live = true → H' a = H a) : CellAt T ι' F' H' a c := by
  cases c with
  | dead => trivial
  | lst xs =>
    obtain ⟨h1, vs, h2, h3⟩ := h
    exact ⟨by rw [hF rfl]; exact h1, vs, by rw [hH rfl]; exact h2, h3.mono g⟩
  | dct ks xs =>
    obtain ⟨h1, vs, h2, h3, h4⟩ := h
    exact ⟨by rw [hF rfl]; exact h1, vs, by rw [hH rfl]; exact h2, h3, h4.mono g⟩
  | obj c ns xs =>
    obtain ⟨h1, dx, vs, h2, h3, h4⟩ := h
    exact ⟨by rw [hF rfl]; exact h1, dx, vs, by rw [hH rfl]; exact h2, h3, h4.mono g⟩
theorem CellAt.has {a : Addr} {c : Cell} (h : CellAt T ι F H a c) (hl : c.live = true) : ∃ o, H a = some o := by
  cases c with
  | dead => cases hl
  | lst xs => obtain ⟨_, vs, h2, _⟩ := h; exact ⟨_, h2⟩
  | dct ks xs => obtain ⟨_, vs, h2, _⟩ := h; exact ⟨_, h2⟩
  | obj c ns xs => obtain ⟨_, dx, vs, h2, _⟩ := h; exact ⟨_, h2⟩
theorem RelH.freeF (R : RelH T P ι F s H) {p : Addr} (h : H p = none) : F p = none := by
  cases e : F p with
  | none => rfl
  | some o => rw [R.sub _ _ e] at h; cases h
theorem RelH.freeP (R : RelH T P ι F s H) {p : Addr} (h : H p = none) : P p = none := by
  cases e : P p with
  | none => rfl
  | some o => rw [R.pro _ _ e] at h; cases h
theorem grow_new (hF : F p = none) (o : HO) : Grow F ι (upd F p o) ι := ⟨fun a u h => by rw [upd_ne (ne_of_none h hF)]; exact h, [], by simp⟩
/-- a new object that stays as it is -/
theorem RelH.new (R : RelH T P ι F s H) {p : Addr} (hp : H p = none) (o : HO) : RelH T P ι (upd F p o) s (upd H p o) where
  sub := fun a u h => by
    by_cases c : a = p
    · subst c; rw [upd_same] at h ⊢; exact h
    · rw [upd_ne c] at h ⊢; exact R.sub a u h
  pro := fun a u h => by
    have q := R.pro a u h
    rw [upd_ne (ne_of_none q hp)]; exact q
  dis := fun a u h => by
    have q := R.pro a u h
    rw [upd_ne (ne_of_none q hp)]; exact R.dis a u h
  len := R.len
  cell := fun n c a h1 h2 => by
    have q := R.cell n c a h1 h2
    refine q.grow (grow_new (R.freeF hp) o) (fun l => ?_) (fun l => ?_)
    all_goals
      obtain ⟨u, hu⟩ := q.has l
      exact upd_ne (ne_of_none hu hp)
  npr := R.npr
  nod := R.nod
/-- a new object that is ours, under protection -/
theorem RelH.newP (R : RelH T P ι F s H) {p : Addr} (hp : H p = none) (o : HO) : RelH T (upd P p o) ι F s (upd H p o) where
  sub := fun a u h => by
    have q := R.sub a u h
    rw [upd_ne (ne_of_none q hp)]; exact q
  pro := fun a u h => by
    by_cases c : a = p
    · subst c; rw [upd_same] at h ⊢; exact h
    · rw [upd_ne c] at h ⊢; exact R.pro a u h
  dis := fun a u h => by
    by_cases c : a = p
    · subst c; exact R.freeF hp
    · rw [upd_ne c] at h; exact R.dis a u h
  len := R.len
  cell := fun n c a h1 h2 => by
    have q := R.cell n c a h1 h2
    refine q.grow (Grow.refl _ _) (fun _ => rfl) (fun l => ?_)
    obtain ⟨u, hu⟩ := q.has l
    exact upd_ne (ne_of_none hu hp)
  npr := fun n c a h1 l h2 => by
    obtain ⟨u, hu⟩ := (R.cell n c a h1 h2).has l
    rw [upd_ne (ne_of_none hu hp)]; exact R.npr n c a h1 l h2
  nod := R.nod
theorem RelH.setP (R : RelH T P ι F s H) {p : Addr} {u : HO} (hp : P p = some u) (o : HO) : RelH T (upd P p o) ι F s (upd H p o) where
  sub := fun a u h => by
    have n : a ≠ p := fun z => by subst z; rw [R.dis _ _ hp] at h; cases h
    rw [upd_ne n]; exact R.sub a u h
  pro := fun a u h => by
    by_cases c : a = p
    · subst c; rw [upd_same] at h ⊢; exact h
    · rw [upd_ne c] at h ⊢; exact R.pro a u h
  dis := fun a v h => by
    by_cases c : a = p
    · subst c; exact R.dis _ _ hp
    · rw [upd_ne c] at h; exact R.dis a v h
  len := R.len
  cell := fun n c a h1 h2 => by
    have q := R.cell n c a h1 h2
    refine q.grow (Grow.refl _ _) (fun _ => rfl) (fun l => ?_)
    have hn := R.npr n c a h1 l h2
    exact upd_ne (fun z => by subst z; rw [hp] at hn; cases hn)
  npr := fun n c a h1 l h2 => by
    have hn := R.npr n c a h1 l h2
    rw [upd_ne (fun z => by subst z; rw [hp] at hn; cases hn)]; exact hn
  nod := R.nod
/-- what was under protection stays as it is from now on -/
theorem RelH.thaw {o : HO} {p : Addr} (R : RelH T (upd P p o) ι F s H) (hp : P p = none) : RelH T P ι (upd F p o) s H where
  sub := fun a u h => by
    by_cases c : a = p
    · subst c; rw [upd_same] at h; exact R.pro a u (by rw [upd_same]; exact h)
    · rw [upd_ne c] at h; exact R.sub a u h
  pro := fun a u h => R.pro a u (by rw [upd_ne (ne_of_none h hp)]; exact h)
  dis := fun a u h => by
    rw [upd_ne (ne_of_none h hp)]
    exact R.dis a u (by rw [upd_ne (ne_of_none h hp)]; exact h)
  len := R.len
  cell := fun n c a h1 h2 => by
    have q := R.cell n c a h1 h2
    have hF : F p = none := R.dis p o upd_same
    refine q.grow (grow_new hF o) (fun l => ?_) (fun _ => rfl)
    have hn := R.npr n c a h1 l h2
    exact upd_ne (fun z => by subst z; rw [upd_same] at hn; cases hn)
  npr := fun n c a h1 l h2 => by
    have hn := R.npr n c a h1 l h2
    have ne : a ≠ p := fun z => by subst z; rw [upd_same] at hn; cases hn
    rw [upd_ne ne] at hn; exact hn
  nod := R.nod
end
end Mp
/-! # MpB -/
namespace Mp
open PySem PySem.Spec L2

/-! ## results -/
inductive Res (α : Type) where
  | ok (a : α) (s : Sto) | exc (c : Nat) (s : Sto) | stuck
def Res.bind {α β : Type} : Res α → (α → Sto → Res β) → Res β
  | .ok a s, k => k a s
  | .exc c s, _ => .exc c s
  | .stuck, _ => .stuck
abbrev DE := Env → Sto → Res D
abbrev DT := Env → Sto → Res Bool
abbrev DA := Env → Sto → Res (List D)
def Post {α β : Type} (T : Tb) (P : Hp) (Rl : Hp → List Addr → α → β → Prop) (Q : β → Hp → Prop) (E : Nat → Hp → Prop) (F : Hp) (ι : List Addr) : Res α → Prop
  | .ok d s' => ∀ v H' ι' F', Grow F ι F' ι' → RelH T P ι' F' s' H' → Rl F' ι' d v → Q v H'
  | .exc c s' => ∀ H' ι' F', Grow F ι F' ι' → RelH T P ι' F' s' H' → E c H'
  | .stuck => False
abbrev eqR {α : Type} : Hp → List Addr → α → α → Prop := fun _ _ a b => a = b
def DenG {α β : Type} (T : Tb) (Rl : Hp → List Addr → α → β → Prop) (W : WX) (t : L2.St → Hp → (β → Hp → Prop) → Prop) (f : Env → Sto → Res α) : Prop :=
  ∀ σ H P ι F δ s Q, RelH T P ι F s H → REnv T F ι δ σ → Post T P Rl Q (fun c H' => W (.ref (T.ca c)) none σ H') F ι (f δ s) → t σ H Q
theorem Post.mono {α β : Type} {T : Tb} {P : Hp} {Rl : Hp → List Addr → α → β → Prop} {Q : β → Hp → Prop} {E : Nat → Hp → Prop} {F F1 : Hp} {ι ι1 : List Addr} {r : Res α} (g : Grow F ι F1 ι1) (h : Post T P Rl Q E F ι r) : Post T P Rl Q E F1 ι1 r := by
  cases r with
  | ok d s => exact fun v H' ι' F' g' => h v H' ι' F' (g.trans g')
  | exc c s => exact fun H' ι' F' g' => h H' ι' F' (g.trans g')
  | stuck => exact h
/-- the value is at hand -/
theorem Post.here {α β : Type} {T : Tb} {P : Hp} {Rl : Hp → List Addr → α → β → Prop} {Q : β → Hp → Prop} {E : Nat → Hp → Prop} {F : Hp} {ι : List Addr} {d : α} {s : Sto} {H : Hp} {v : β} (h : Post T P Rl Q E F ι (.ok d s)) (R : RelH T P ι F s H) (r : Rl F ι d v) : Q v H :=
  h v H ι F (Grow.refl _ _) R r
theorem Post.new {α : Type} {T : Tb} {P : Hp} {Rl : Hp → List Addr → α → V → Prop} {Q : V → Hp → Prop} {E : Nat → Hp → Prop} {F : Hp} {ι : List Addr} {d : α} {s : Sto} {H : Hp} {p : Addr} {o : HO} (h : Post T P Rl Q E F ι (.ok d s)) (R : RelH T P ι F s H) (hp : H p = none) (r : Grow F ι (upd F p o) ι → Rl (upd F p o) ι d (.ref p)) : Q (.ref p) (upd H p o) :=
  h _ _ _ _ (grow_new (R.freeF hp) o) (R.new hp o) (r (grow_new (R.freeF hp) o))
/-- one after another -/
theorem den_then {α β α2 β2 : Type} {T : Tb} {R1 : Hp → List Addr → α → β → Prop} {R2 : Hp → List Addr → α2 → β2 → Prop} {W : WX} {t : L2.St → Hp → (β → Hp → Prop) → Prop} {f : Env → Sto → Res α} {k : α → Sto → Res α2}
    {σ : L2.St} {H P : Hp} {ι : List Addr} {F : Hp} {δ : Env} {s : Sto} {Q : β2 → Hp → Prop} {G : β → Hp → Prop} (h1 : DenG T R1 W t f) (R : RelH T P ι F s H) (E : REnv T F ι δ σ)
    (post : Post T P R2 Q (fun c H' => W (.ref (T.ca c)) none σ H') F ι ((f δ s).bind k))
    (hk : ∀ x y H1 ι1 F1 s1, Grow F ι F1 ι1 → RelH T P ι1 F1 s1 H1 → REnv T F1 ι1 δ σ → R1 F1 ι1 x y → Post T P R2 Q (fun c H' => W (.ref (T.ca c)) none σ H') F1 ι1 (k x s1) → G y H1) : t σ H G := by
  refine h1 σ H P ι F δ s G R E ?_
  cases e : f δ s with
  | ok x s1 =>
    rw [e] at post
    exact fun v H' ι' F' g R' r => hk x v H' ι' F' s1 g R' (E.mono g) r (post.mono g)
  | exc c s1 =>
    rw [e] at post
    exact post
  | stuck =>
    rw [e] at post
    exact post

/-! ## judgements: a derivation in HandS and what it evaluates to -/
def PDe (T : Tb) (X : Cx) (e : Expr) (f : DE) : Prop := ∀ pn xe W, Takes (X.tr pn xe) W → ∃ t, PE (X.tr pn xe) e t ∧ DenG T (Rp T) W t f
def PDt (T : Tb) (X : Cx) (e : Expr) (f : DT) : Prop := ∀ pn xe W, Takes (X.tr pn xe) W → ∃ t, PT (X.tr pn xe) e t ∧ DenG T eqR W t f
abbrev RpsN (T : Tb) (n : Nat) : Hp → List Addr → List D → List V → Prop := fun F ι ds vs => Rps T F ι ds vs ∧ vs.length = n
def PDa (T : Tb) (X : Cx) (es : List Expr) (f : DA) : Prop := ∀ pn xe W, Takes (X.tr pn xe) W → ∃ t, PA (X.tr pn xe) es t ∧ DenG T (RpsN T es.length) W t f

/-! ## names and constants -/
def dVar (i : Nat) : DE := fun δ s => match δ[i]? with
  | some (some d) => .ok d s
  | _ => .stuck
def dC (d : D) : DE := fun _ s => .ok d s
section
variable {T : Tb} {X : Cx}
theorem d_var {x : Str} {pos : Pos} (i : Nat) (hN : X.N[i]? = some x := by rfl) (hv : Vis X.env.scope x := by first | exact Or.inl rfl | exact Or.inr (Or.inl rfl) | exact Or.inr (Or.inr rfl)) (hd : (x == ("__debug__" : Str)) = false := by decide)
    (hcd : (x == ("__classdict__" : Str)) = false := by decide) : PDe T X (.Name x pos) (dVar i) := by
  intro pn xe W tk
  refine ⟨_, pe_var (i := i) (X := X.tr pn xe) hN hv hd hcd, fun σ H P ι F δ s Q R E post => ?_⟩
  unfold dVar at post
  cases e : δ[i]? with
  | none => rw [e] at post; exact post.elim
  | some o =>
    cases o with
    | none => rw [e] at post; exact post.elim
    | some d =>
      rw [e] at post
      obtain ⟨v, e1, e2⟩ := E.at_ i d e
      exact ⟨v, e1, post.here R e2⟩
theorem den_c {W : WX} {d : D} {v : V} (h : ∀ F ι, Rp T F ι d v) : DenG T (Rp T) W (tC v) (dC d) := fun _ _ _ ι F _ _ _ R _ post => post.here R (h F ι)
theorem d_int {i j pos} : PDe T X (.Constant (.int i) j pos) (dC (.int i)) := fun pn xe W _ => ⟨_, pe_int, den_c fun _ _ => by unfold Rp; rfl⟩
theorem d_bl {b j pos} : PDe T X (.Constant (.bool b) j pos) (dC (.bl b)) := fun pn xe W _ => ⟨_, pe_bl, den_c fun _ _ => by unfold Rp; rfl⟩
theorem d_non {j pos} : PDe T X (.Constant .none j pos) (dC .non) := fun pn xe W _ => ⟨_, pe_non, den_c fun _ _ => by unfold Rp; rfl⟩
theorem d_str {x : Str} {j pos} (cs : List Nat) (h : x = S cs) : PDe T X (.Constant (.str x) j pos) (dC (.str cs)) := fun pn xe W _ => ⟨_, pe_str, den_c fun _ _ => by unfold Rp; rw [h]⟩
/-- a module's constant -/
theorem d_glob {x : Str} {pos : Pos} {d : D} {v : V} (h : ∀ F ι, Rp T F ι d v) (hm : ∃ u, X.mg x = some u ∧ RelV v u) (hg : Gl X x := by rfl) (hd : (x == ("__debug__" : Str)) = false := by decide) : PDe T X (.Name x pos) (dC d) := fun pn xe W _ => by
  obtain ⟨u, h1, h2⟩ := hm
  exact ⟨_, pe_glob (X := X.tr pn xe) hg h1 h2 hd, den_c h⟩
/-- a built-in class as a value -/
theorem d_ty {x : Str} {pos : Pos} (n : String) (hm : X.mg x = none) (hv : bootBuiltins x = some (.type n)) (hg : Gl X x := by rfl) (hn : x ≠ "__name__" := by decide) (hd : (x == ("__debug__" : Str)) = false := by decide) : PDe T X (.Name x pos) (dC (.ty n)) := fun pn xe W _ =>
  ⟨_, pe_bltn (X := X.tr pn xe) (v := .ty n) hg hm hv rfl hn hd, den_c fun _ _ => by unfold Rp; rfl⟩
/-- a class of the text as a value -/
theorem d_cls {x : Str} {pos : Pos} (c : Nat) (hm : X.mg x = some (.ref (T.ca c))) (hg : Gl X x := by rfl) (hd : (x == ("__debug__" : Str)) = false := by decide) : PDe T X (.Name x pos) (dC (.cls c)) := fun pn xe W _ =>
  ⟨_, pe_glob (X := X.tr pn xe) (v := .ref (T.ca c)) hg hm rfl hd, den_c fun _ _ => by unfold Rp; rfl⟩

/-! ## arguments -/
def aNil : DA := fun _ s => .ok [] s
def aCons (f : DE) (g : DA) : DA := fun δ s => (f δ s).bind fun x s1 => (g δ s1).bind fun xs s2 => .ok (x :: xs) s2
theorem a_nil : PDa T X [] aNil := fun pn xe W _ => ⟨_, pa_nil, fun _ _ _ _ _ _ _ _ R _ post => post.here R ⟨.nil, rfl⟩⟩
theorem a_cons {e : Expr} {es : List Expr} {f : DE} {g : DA} (he : PDe T X e f) (hr : PDa T X es g) (hs : starEach (e :: es) X.env = (false, eval e X.env) :: starEach es X.env := by rfl) : PDa T X (e :: es) (aCons f g) := fun pn xe W tk => by
  obtain ⟨t1, p1, d1⟩ := he pn xe W tk
  obtain ⟨t2, p2, d2⟩ := hr pn xe W tk
  refine ⟨_, pa_cons (X := X.tr pn xe) p1 p2 hs, fun σ H P ι F δ s Q R E post => ?_⟩
  show t1 σ H _
  refine den_then d1 R E post fun x y H1 ι1 F1 s1 g1 R1 E1 r1 post1 => ?_
  refine den_then d2 R1 E1 post1 fun xs ys H2 ι2 F2 s2 g2 R2 E2 r2 post2 => ?_
  exact post2.here R2 ⟨.cons (r1.mono g2) r2.1, congrArg Nat.succ r2.2⟩

/-! ## operators -/
abbrev DOp := D → D → Sto → Res D
def dOp (op : DOp) (fa fb : DE) : DE := fun δ s => (fa δ s).bind fun x s1 => (fb δ s1).bind fun y s2 => op x y s2
/-- what an operator's reading asks follows from the deep one -/
def DenOp (T : Tb) (r : R2) (op : DOp) : Prop := ∀ x y dx dy H P ι F s Q E, RelH T P ι F s H → Rp T F ι dx x → Rp T F ι dy y → Post T P (Rp T) Q E F ι (op dx dy s) → r x y H Q
theorem den_op {W : WX} {r : R2} {op : DOp} {ta tb : TE} {fa fb : DE} (ho : DenOp T r op) (ha : DenG T (Rp T) W ta fa) (hb : DenG T (Rp T) W tb fb) : DenG T (Rp T) W (tOp r ta tb) (dOp op fa fb) := fun σ H P ι F δ s Q R E post => by
  show ta σ H _
  refine den_then ha R E post fun x y H1 ι1 F1 s1 g1 R1 E1 r1 post1 => ?_
  refine den_then hb R1 E1 post1 fun x2 y2 H2 ι2 F2 s2 g2 R2 E2 r2 post2 => ?_
  exact ho _ _ _ _ _ _ _ _ _ _ _ R2 (r1.mono g2) r2 post2
theorem d_op {a b : Expr} {pos : Pos} {op : Operator} {r : R2} {o : DOp} {fa fb : DE} (hr : ∀ pn xe, OpR (X.tr pn xe) (binaryOp op) r) (ho : DenOp T r o) (ha : PDe T X a fa) (hb : PDe T X b fb) : PDe T X (.BinOp a op b pos) (dOp o fa fb) := fun pn xe W tk => by
  obtain ⟨t1, p1, d1⟩ := ha pn xe W tk
  obtain ⟨t2, p2, d2⟩ := hb pn xe W tk
  exact ⟨_, pe_op (hr pn xe) p1 p2, den_op ho d1 d2⟩
theorem d_cmp {a b : Expr} {pos : Pos} {op : CmpOp} {r : R2} {o : DOp} {fa fb : DE} (hr : ∀ pn xe, OpR (X.tr pn xe) (compareOp op) r) (ho : DenOp T r o) (ha : PDe T X a fa) (hb : PDe T X b fb) (hm : behindInMarks op b = false) : PDe T X (.Compare a [op] [b] pos) (dOp o fa fb) := fun pn xe W tk => by
  obtain ⟨t1, p1, d1⟩ := ha pn xe W tk
  obtain ⟨t2, p2, d2⟩ := hb pn xe W tk
  exact ⟨_, pe_cmpR (hr pn xe) p1 p2 hm, den_op ho d1 d2⟩
/-- a value that is True or False, as a test -/
def tst (f : DE) : DT := fun δ s => (f δ s).bind fun x s1 => match x with
  | .bl b => .ok b s1
  | _ => .stuck
theorem den_tst {W : WX} {t : TE} {f : DE} (h : DenG T (Rp T) W t f) : DenG T eqR W (fun σ H Q => t σ H fun x H' => ∃ k, x = .bl k ∧ Q k H') (tst f) := fun σ H P ι F δ s Q R E post => by
  refine den_then h R E post fun x y H1 ι1 F1 s1 g1 R1 E1 r1 post1 => ?_
  cases x with
  | bl b =>
    unfold Rp at r1
    exact ⟨b, r1, post1.here R1 rfl⟩
  | _ => exact post1.elim
theorem t_cmp {a b : Expr} {pos : Pos} {op : CmpOp} {r : R2} {o : DOp} {fa fb : DE} (hr : ∀ pn xe, OpR (X.tr pn xe) (compareOp op) r) (ho : DenOp T r o) (ha : PDe T X a fa) (hb : PDe T X b fb) (hm : behindInMarks op b = false) : PDt T X (.Compare a [op] [b] pos) (tst (dOp o fa fb)) := fun pn xe W tk => by
  obtain ⟨t1, p1, d1⟩ := ha pn xe W tk
  obtain ⟨t2, p2, d2⟩ := hb pn xe W tk
  exact ⟨_, pt_cmpR (hr pn xe) p1 p2 hm, den_tst (den_op ho d1 d2)⟩
theorem t_val {e : Expr} {f : DE} (h : PDe T X e f) (he : ∀ whole, isTrue e X.env whole = (do let v ← whole; standAt e.pos; holding [v] (truthy v)) := by intro _; rfl) : PDt T X e (tst f) := fun pn xe W tk => by
  obtain ⟨t1, p1, d1⟩ := h pn xe W tk
  exact ⟨_, pt_val (X := X.tr pn xe) p1 he, den_tst d1⟩
/-- a < b < c -/
def dChain (op op' : DOp) (fa fb fc : DE) : DE := fun δ s => (fa δ s).bind fun x s1 => (fb δ s1).bind fun y s2 => (op x y s2).bind fun z s3 => match z with
  | .bl true => (fc δ s3).bind fun w s4 => op' y w s4
  | .bl false => .ok (.bl false) s3
  | _ => .stuck
theorem den_op1 {W : WX} {r : R2} {op : DOp} (ho : DenOp T r op) {x y : V} {dx dy : D} {H P : Hp} {ι : List Addr} {F : Hp} {δ : Env} {s : Sto} {σ : L2.St} {Q : VK} {G : VK} {k : D → Sto → Res D} (R : RelH T P ι F s H) (E : REnv T F ι δ σ) (rx : Rp T F ι dx x) (ry : Rp T F ι dy y)
    (post : Post T P (Rp T) Q (fun c H' => W (.ref (T.ca c)) none σ H') F ι ((op dx dy s).bind k))
    (hk : ∀ x y H1 ι1 F1 s1, Grow F ι F1 ι1 → RelH T P ι1 F1 s1 H1 → REnv T F1 ι1 δ σ → Rp T F1 ι1 x y → Post T P (Rp T) Q (fun c H' => W (.ref (T.ca c)) none σ H') F1 ι1 (k x s1) → G y H1) : r x y H G :=
  den_then (T := T) (W := W) (t := fun σ' H' Q' => ∀ (P' : Hp) ι' F' s', RelH T P' ι' F' s' H' → Rp T F' ι' dx x → Rp T F' ι' dy y → Post T P' (Rp T) Q' (fun c H' => W (.ref (T.ca c)) none σ H') F' ι' (op dx dy s') → r x y H' Q') (f := fun _ s' => op dx dy s')
    (fun σ' H' P' ι' F' δ' s' Q' R' E' post' P'' ι'' F'' s'' R'' a b c => ho _ _ _ _ _ _ _ _ _ _ _ R'' a b c) R E post hk P ι F s R rx ry (by
      cases e : op dx dy s with
      | ok a b => rw [e] at post; exact fun v H' ι' F' g R' r => hk a v H' ι' F' b g R' (E.mono g) r (post.mono g)
      | exc c b => rw [e] at post; exact post
      | stuck => rw [e] at post; exact post)
theorem den_chain {W : WX} {r r' : R2} {o o' : DOp} {ta tb tc : TE} {fa fb fc : DE} (ho : DenOp T r o) (ho' : DenOp T r' o') (d1 : DenG T (Rp T) W ta fa) (d2 : DenG T (Rp T) W tb fb) (d3 : DenG T (Rp T) W tc fc) : DenG T (Rp T) W (tChain r r' ta tb tc) (dChain o o' fa fb fc) := fun σ H P ι F δ s Q R E post => by
  show ta σ H _
  refine den_then d1 R E post fun x y H1 ι1 F1 s1 g1 R1 E1 r1 post1 => ?_
  refine den_then d2 R1 E1 post1 fun x2 y2 H2 ι2 F2 s2 g2 R2 E2 r2 post2 => ?_
  refine den_op1 ho R2 E2 (r1.mono g2) r2 post2 fun z w H3 ι3 F3 s3 g3 R3 E3 r3 post3 => ?_
  cases z with
  | bl b =>
    unfold Rp at r3
    refine ⟨b, r3, ?_⟩
    cases b with
    | true =>
      rw [if_pos rfl]
      refine den_then d3 R3 E3 post3 fun x4 y4 H4 ι4 F4 s4 g4 R4 E4 r4 post4 => ?_
      exact ho' _ _ _ _ _ _ _ _ _ _ _ R4 ((r2.mono g3).mono g4) r4 post4
    | false =>
      rw [if_neg Bool.false_ne_true]
      exact post3.here R3 (by unfold Rp; rfl)
  | _ => exact post3.elim
theorem d_chain {a b c : Expr} {pos : Pos} {op op' : CmpOp} {r r' : R2} {o o' : DOp} {fa fb fc : DE} (hr : ∀ pn xe, OpR (X.tr pn xe) (compareOp op) r) (hr' : ∀ pn xe, OpR (X.tr pn xe) (compareOp op') r') (ho : DenOp T r o) (ho' : DenOp T r' o')
    (ha : PDe T X a fa) (hb : PDe T X b fb) (hc : PDe T X c fc) (hm : lastMarks [op, op'] [b, c] = false := by with_unfolding_all rfl) : PDe T X (.Compare a [op, op'] [b, c] pos) (dChain o o' fa fb fc) := fun pn xe W tk => by
  obtain ⟨t1, p1, d1⟩ := ha pn xe W tk
  obtain ⟨t2, p2, d2⟩ := hb pn xe W tk
  obtain ⟨t3, p3, d3⟩ := hc pn xe W tk
  exact ⟨_, pe_chain (hr pn xe) (hr' pn xe) p1 p2 p3 hm, den_chain ho ho' d1 d2 d3⟩
theorem t_chain {a b c : Expr} {pos : Pos} {op op' : CmpOp} {r r' : R2} {o o' : DOp} {fa fb fc : DE} (hr : ∀ pn xe, OpR (X.tr pn xe) (compareOp op) r) (hr' : ∀ pn xe, OpR (X.tr pn xe) (compareOp op') r') (ho : DenOp T r o) (ho' : DenOp T r' o')
    (ha : PDe T X a fa) (hb : PDe T X b fb) (hc : PDe T X c fc) (hm : lastMarks [op, op'] [b, c] = false := by with_unfolding_all rfl) : PDt T X (.Compare a [op, op'] [b, c] pos) (tst (dChain o o' fa fb fc)) := fun pn xe W tk => by
  obtain ⟨t1, p1, d1⟩ := ha pn xe W tk
  obtain ⟨t2, p2, d2⟩ := hb pn xe W tk
  obtain ⟨t3, p3, d3⟩ := hc pn xe W tk
  exact ⟨_, pt_chain (hr pn xe) (hr' pn xe) p1 p2 p3 hm, den_tst (den_chain ho ho' d1 d2 d3)⟩

/-! ## and, or, not, if-expressions -/
def tAndD (f g : DT) : DT := fun δ s => (f δ s).bind fun b s1 => match b with
  | true => g δ s1
  | false => .ok false s1
def tOrD (f g : DT) : DT := fun δ s => (f δ s).bind fun b s1 => match b with
  | true => .ok true s1
  | false => g δ s1
def tNotD (f : DT) : DT := fun δ s => (f δ s).bind fun b s1 => .ok (!b) s1
def PDw (T : Tb) (X : Cx) (e : Expr) (f : DT) : Prop := ∀ pn xe W, Takes (X.tr pn xe) W → ∃ t, PW (X.tr pn xe) e t ∧ DenG T eqR W t f
theorem PDw.t {e : Expr} {f : DT} (h : PDw T X e f) : PDt T X e f := fun pn xe W tk => by
  obtain ⟨t, p, d⟩ := h pn xe W tk
  exact ⟨t, p.pt, d⟩
section
variable {a b : Expr} {rest : List Expr} {pos : Pos} {fa fb : DT}
theorem w_and1 (ha : PDt T X a fa) : PDw T X (.BoolOp .And [a] pos) fa := fun pn xe W tk => by
  obtain ⟨t, p, d⟩ := ha pn xe W tk
  exact ⟨t, pw_and1 p, d⟩
theorem w_or1 (ha : PDt T X a fa) : PDw T X (.BoolOp .Or [a] pos) fa := fun pn xe W tk => by
  obtain ⟨t, p, d⟩ := ha pn xe W tk
  exact ⟨t, pw_or1 p, d⟩
theorem w_and (ha : PDt T X a fa) (hb : PDw T X (.BoolOp .And (b :: rest) pos) fb) : PDw T X (.BoolOp .And (a :: b :: rest) pos) (tAndD fa fb) := fun pn xe W tk => by
  obtain ⟨t1, p1, d1⟩ := ha pn xe W tk
  obtain ⟨t2, p2, d2⟩ := hb pn xe W tk
  refine ⟨_, pw_and p1 p2, fun σ H P ι F δ s Q R E post => ?_⟩
  show t1 σ H _
  refine den_then d1 R E post fun x y H1 ι1 F1 s1 g1 R1 E1 r1 post1 => ?_
  cases r1
  cases x with
  | true =>
    rw [if_pos rfl]
    exact d2 _ _ _ _ _ _ _ _ R1 E1 post1
  | false =>
    rw [if_neg Bool.false_ne_true]
    exact post1.here R1 rfl
theorem w_or (ha : PDt T X a fa) (hb : PDw T X (.BoolOp .Or (b :: rest) pos) fb) : PDw T X (.BoolOp .Or (a :: b :: rest) pos) (tOrD fa fb) := fun pn xe W tk => by
  obtain ⟨t1, p1, d1⟩ := ha pn xe W tk
  obtain ⟨t2, p2, d2⟩ := hb pn xe W tk
  refine ⟨_, pw_or p1 p2, fun σ H P ι F δ s Q R E post => ?_⟩
  show t1 σ H _
  refine den_then d1 R E post fun x y H1 ι1 F1 s1 g1 R1 E1 r1 post1 => ?_
  cases r1
  cases x with
  | true =>
    rw [if_pos rfl]
    exact post1.here R1 rfl
  | false =>
    rw [if_neg Bool.false_ne_true]
    exact d2 _ _ _ _ _ _ _ _ R1 E1 post1
theorem t_not (ha : PDt T X a fa) : PDt T X (.UnaryOp .Not a pos) (tNotD fa) := fun pn xe W tk => by
  obtain ⟨t1, p1, d1⟩ := ha pn xe W tk
  refine ⟨_, pt_not p1, fun σ H P ι F δ s Q R E post => ?_⟩
  show t1 σ H _
  refine den_then d1 R E post fun x y H1 ι1 F1 s1 g1 R1 E1 r1 post1 => ?_
  cases r1
  exact post1.here R1 rfl
end
def dAndV (f g : DE) : DE := fun δ s => (f δ s).bind fun x s1 => match x with
  | .bl true => g δ s1
  | .bl false => .ok (.bl false) s1
  | _ => .stuck
def dOrV (f g : DE) : DE := fun δ s => (f δ s).bind fun x s1 => match x with
  | .bl true => .ok (.bl true) s1
  | .bl false => g δ s1
  | _ => .stuck
def dNotV (f : DE) : DE := fun δ s => (f δ s).bind fun x s1 => match x with
  | .bl b => .ok (.bl (!b)) s1
  | _ => .stuck
def dIfE (c : DT) (f g : DE) : DE := fun δ s => (c δ s).bind fun b s1 => match b with
  | true => f δ s1
  | false => g δ s1
section
variable {a b c : Expr} {rest : List Expr} {pos : Pos} {fa fb : DE} {fc : DT}
theorem d_one {op} (ha : PDe T X a fa) : PDe T X (.BoolOp op [a] pos) fa := fun pn xe W tk => by
  obtain ⟨t1, p1, d1⟩ := ha pn xe W tk
  exact ⟨_, pe_one p1, d1⟩
theorem d_and (ha : PDe T X a fa) (hb : PDe T X (.BoolOp .And (b :: rest) pos) fb) : PDe T X (.BoolOp .And (a :: b :: rest) pos) (dAndV fa fb) := fun pn xe W tk => by
  obtain ⟨t1, p1, d1⟩ := ha pn xe W tk
  obtain ⟨t2, p2, d2⟩ := hb pn xe W tk
  refine ⟨_, pe_and p1 p2, fun σ H P ι F δ s Q R E post => ?_⟩
  show t1 σ H _
  refine den_then d1 R E post fun x y H1 ι1 F1 s1 g1 R1 E1 r1 post1 => ?_
  cases x with
  | bl b =>
    unfold Rp at r1
    refine ⟨b, r1, ?_⟩
    cases b with
    | true =>
      rw [if_pos rfl]
      exact d2 _ _ _ _ _ _ _ _ R1 E1 post1
    | false =>
      rw [if_neg Bool.false_ne_true]
      exact post1.here R1 (by unfold Rp; rfl)
  | _ => exact post1.elim
theorem d_or (ha : PDe T X a fa) (hb : PDe T X (.BoolOp .Or (b :: rest) pos) fb) : PDe T X (.BoolOp .Or (a :: b :: rest) pos) (dOrV fa fb) := fun pn xe W tk => by
  obtain ⟨t1, p1, d1⟩ := ha pn xe W tk
  obtain ⟨t2, p2, d2⟩ := hb pn xe W tk
  refine ⟨_, pe_or p1 p2, fun σ H P ι F δ s Q R E post => ?_⟩
  show t1 σ H _
  refine den_then d1 R E post fun x y H1 ι1 F1 s1 g1 R1 E1 r1 post1 => ?_
  cases x with
  | bl b =>
    unfold Rp at r1
    refine ⟨b, r1, ?_⟩
    cases b with
    | true =>
      rw [if_pos rfl]
      exact post1.here R1 (by unfold Rp; rfl)
    | false =>
      rw [if_neg Bool.false_ne_true]
      exact d2 _ _ _ _ _ _ _ _ R1 E1 post1
  | _ => exact post1.elim
theorem d_not (ha : PDe T X a fa) : PDe T X (.UnaryOp .Not a pos) (dNotV fa) := fun pn xe W tk => by
  obtain ⟨t1, p1, d1⟩ := ha pn xe W tk
  refine ⟨_, pe_not p1, fun σ H P ι F δ s Q R E post => ?_⟩
  show t1 σ H _
  refine den_then d1 R E post fun x y H1 ι1 F1 s1 g1 R1 E1 r1 post1 => ?_
  cases x with
  | bl b =>
    unfold Rp at r1
    exact ⟨b, r1, post1.here R1 (by unfold Rp; rfl)⟩
  | _ => exact post1.elim
theorem d_ifE (hc : PDt T X c fc) (ha : PDe T X a fa) (hb : PDe T X b fb) : PDe T X (.IfExp c a b pos) (dIfE fc fa fb) := fun pn xe W tk => by
  obtain ⟨t0, p0, d0⟩ := hc pn xe W tk
  obtain ⟨t1, p1, d1⟩ := ha pn xe W tk
  obtain ⟨t2, p2, d2⟩ := hb pn xe W tk
  refine ⟨_, pe_ifExp p0 p1 p2, fun σ H P ι F δ s Q R E post => ?_⟩
  show t0 σ H _
  refine den_then d0 R E post fun x y H1 ι1 F1 s1 g1 R1 E1 r1 post1 => ?_
  cases r1
  cases x with
  | true =>
    rw [if_pos rfl]
    exact d1 _ _ _ _ _ _ _ _ R1 E1 post1
  | false =>
    rw [if_neg Bool.false_ne_true]
    exact d2 _ _ _ _ _ _ _ _ R1 E1 post1
end
end
end Mp
/-! # MpC -/
namespace Mp
open PySem PySem.Spec L2

def lim : Nat := 1000000
theorem lim_le {n : Nat} (h : n ≤ lim) : n ≤ sizeLine := Nat.le_trans h (by rw [sizeLine_eq]; decide)
theorem lim_lt {n : Nat} (h : n ≤ lim) : n < sizeLine := Nat.lt_of_le_of_lt h (by rw [sizeLine_eq]; decide)
/-! ## what stands for lists and tuples -/
def lsOf (s : Sto) : D → Option (List D)
  | .lst xs => some xs
  | .loc n => match s[n]? with
    | some (.lst xs) => some xs
    | _ => none
  | _ => none
/-- a list that is only read -/
def lqOf (s : Sto) : D → Option (List D)
  | .scr ns => some (ns.map D.int)
  | d => lsOf s d
section
variable {T : Tb} {P : Hp} {ι : List Addr} {F : Hp} {s : Sto} {H : Hp}
theorem ls_of (R : RelH T P ι F s H) {d : D} {v : V} {xs : List D} (r : Rp T F ι d v) (e : lsOf s d = some xs) : ∃ a vs, v = .ref a ∧ H a = some (.lst vs) ∧ Rps T F ι xs vs := by
  unfold lsOf at e
  cases d with
  | lst ys =>
    cases e
    unfold Rp at r
    obtain ⟨a, vs, h1, h2, h3⟩ := r
    exact ⟨a, vs, h1, R.sub _ _ h2, h3⟩
  | loc n =>
    unfold Rp at r
    obtain ⟨a, h1, h2⟩ := r
    dsimp only at e
    cases q : s[n]? with
    | none => rw [q] at e; cases e
    | some c =>
      rw [q] at e
      cases c with
      | lst ys =>
        cases e
        obtain ⟨_, vs, h3, h4⟩ := R.cell n _ a q h1
        exact ⟨a, vs, h2, h3, h4⟩
      | _ => cases e
  | _ => cases e
theorem rps_ints : ∀ (ns : List Int), Rps T F ι (ns.map D.int) (ns.map V.int)
  | [] => .nil
  | n :: r => .cons (by unfold Rp; rfl) (rps_ints r)
theorem lq_of (R : RelH T P ι F s H) {d : D} {v : V} {xs : List D} (r : Rp T F ι d v) (e : lqOf s d = some xs) : ∃ a vs, v = .ref a ∧ SqL T.K H a vs ∧ Rps T F ι xs vs := by
  cases d with
  | scr ns =>
    unfold lqOf at e
    cases e
    unfold Rp at r
    obtain ⟨a, h1, h2⟩ := r
    exact ⟨a, _, h1, sql_mono R.sub h2, rps_ints ns⟩
  | _ =>
    obtain ⟨a, vs, h1, h2, h3⟩ := ls_of R r (show lsOf s _ = some xs from e)
    exact ⟨a, vs, h1, SqL.of h2, h3⟩
theorem tp_of (R : RelH T P ι F s H) {xs : List D} {v : V} (r : Rp T F ι (.tup xs) v) : ∃ a vs, v = .ref a ∧ H a = some (.tup vs) ∧ F a = some (.tup vs) ∧ Rps T F ι xs vs := by
  unfold Rp at r
  obtain ⟨a, vs, h1, h2, h3⟩ := r
  exact ⟨a, vs, h1, R.sub _ _ h2, h2, h3⟩
end

/-! ## arithmetic, sums of texts, lists, tuples -/
def oAdd : DOp
  | .int a, .int b, s => .ok (.int (a + b)) s
  | .str a, .str b, s => if a.length + b.length ≤ lim then .ok (.str (a ++ b)) s else .stuck
  | .tup a, .tup b, s => if a ≠ [] ∧ a.length + b.length ≤ lim then .ok (.tup (a ++ b)) s else .stuck
  | x, y, s => match lsOf s x, lsOf s y with
    | some a, some b => if a.length + b.length ≤ lim then .ok (.lst (a ++ b)) s else .stuck
    | _, _ => .stuck
def orR (r r' : R2) : R2 := fun x y H Q => r x y H Q ∨ r' x y H Q
theorem OpR.or {X : Cx} {f : Value → Value → Sem Value} {r r' : R2} (h : OpR X f r) (h' : OpR X f r') : OpR X f (orR r r') := by
  intro pins s σ H x y v u Q I rx ry q
  rcases q with q | q
  · exact h pins s σ H x y v u Q I rx ry q
  · exact h' pins s σ H x y v u Q I rx ry q
def rAddS : R2 := fun x y H Q => ∃ i j, x = .str i ∧ y = .str j ∧ i.length + j.length ≤ sizeLine ∧ Q (.str (i ++ j)) H
def rAddA (K : PySem.W.Frag) : R2 := orR (rI0 fun i j => .int (i + j)) (orR rAddS (orR rCat (rCatT K)))
theorem op_addA {X : Cx} : OpR X (binaryOp .Add) (rAddA X.K) := OpR.or op_add (OpR.or op_add_str (OpR.or op_cat op_catT))
section
variable {T : Tb}
theorem do_add : DenOp T (rAddA T.K) oAdd := by
  intro x y dx dy H P ι F s Q E R rx ry post
  have gen : ∀ a b, lsOf s dx = some a → lsOf s dy = some b → Post T P (Rp T) Q E F ι (if a.length + b.length ≤ lim then .ok (.lst (a ++ b)) s else .stuck) → rAddA T.K x y H Q := by
    intro a b h1 h2 post
    obtain ⟨p, vs, rfl, e1, e2⟩ := ls_of R rx h1
    obtain ⟨q, us, rfl, e3, e4⟩ := ls_of R ry h2
    split at post
    · rename_i hl
      refine .inr (.inr (.inl ⟨p, q, vs, us, rfl, rfl, e1, e3, by rw [← e2.len, ← e4.len]; exact lim_le hl, fun l hl => ?_⟩))
      refine post.new R hl fun g => ?_
      unfold Rp
      exact ⟨l, _, rfl, upd_same, (e2.app e4).mono g⟩
    · exact post.elim
  unfold oAdd at post
  split at post
  · unfold Rp at rx ry
    exact .inl ⟨_, _, rx, ry, post.here R (by unfold Rp; rfl)⟩
  · unfold Rp at rx ry
    rename_i a b _
    split at post
    · rename_i hl
      refine .inr (.inl ⟨_, _, rx, ry, by rw [S_len, S_len]; exact lim_le hl, ?_⟩)
      rw [S_cat]
      exact post.here R (by unfold Rp; rfl)
    · exact post.elim
  · rename_i a b _
    split at post
    · rename_i hl
      obtain ⟨p, vs, rfl, e1, _, e2⟩ := tp_of R rx
      obtain ⟨q, us, rfl, e3, _, e4⟩ := tp_of R ry
      refine .inr (.inr (.inr ⟨p, q, vs, us, rfl, rfl, SqT.of e1, SqT.of e3, ?_, by rw [← e2.len, ← e4.len]; exact lim_le hl.2, fun z => ?_, fun _ l hl => ?_⟩))
      · intro z
        have := e2.len
        rw [z] at this
        exact hl.1 (List.length_eq_zero_iff.mp this)
      · have := e4.len
        rw [z] at this
        rw [List.length_eq_zero_iff.mp this] at post
        refine post.here R ?_
        rw [List.append_nil]
        exact rx
      · refine post.new R hl fun g => ?_
        unfold Rp
        exact ⟨l, _, rfl, upd_same, (e2.app e4).mono g⟩
    · exact post.elim
  · split at post
    · rename_i a b h1 h2
      exact gen a b h1 h2 post
    · exact post.elim
/-- whole numbers in, under a condition -/
def oInt (c : Int → Int → Bool) (g : Int → Int → Int) : DOp
  | .int a, .int b, s => if c a b = true then .ok (.int (g a b)) s else .stuck
  | _, _, _ => .stuck
theorem do_int {c : Int → Int → Bool} {C : Int → Int → Prop} {g : Int → Int → Int} (h : ∀ a b, c a b = true → C a b) : DenOp T (rI C fun i j => .int (g i j)) (oInt c g) := by
  intro x y dx dy H P ι F s Q E R rx ry post
  unfold oInt at post
  split at post
  · split at post
    · rename_i hc
      unfold Rp at rx ry
      exact ⟨_, _, rx, ry, h _ _ hc, post.here R (by unfold Rp; rfl)⟩
    · exact post.elim
  · exact post.elim
theorem do_int0 {g : Int → Int → Int} : DenOp T (rI0 fun i j => .int (g i j)) (oInt (fun _ _ => true) g) := by
  intro x y dx dy H P ι F s Q E R rx ry post
  unfold oInt at post
  split at post
  · rw [if_pos rfl] at post
    unfold Rp at rx ry
    exact ⟨_, _, rx, ry, post.here R (by unfold Rp; rfl)⟩
  · exact post.elim
abbrev oSub : DOp := oInt (fun _ _ => true) (· - ·)
def cMul (i j : Int) : Bool := (decide (-(2 ^ 64) < i) && decide (i < 2 ^ 64)) || (decide (-(2 ^ 64) < j) && decide (j < 2 ^ 64))
abbrev oMul : DOp := oInt cMul (· * ·)
abbrev oDiv : DOp := oInt (fun _ j => decide (0 < j) && decide (j < 1073741824)) (· / ·)
abbrev oMod : DOp := oInt (fun _ j => decide (0 < j)) (· % ·)
def cPow (i j : Int) : Bool := decide (0 ≤ j) && (decide (j ≤ 1000000) && decide (i.natAbs < 2 ^ 64))
abbrev oPow : DOp := oInt cPow (fun i j => i ^ j.toNat)
abbrev oShl : DOp := oInt cPow (fun i j => i * 2 ^ j.toNat)
abbrev oShr : DOp := oInt (fun _ j => decide (0 ≤ j)) (fun i j => i / 2 ^ j.toNat)
abbrev oAnd : DOp := oInt (fun _ _ => true) Builtin.bitAnd
abbrev oOr : DOp := oInt (fun _ _ => true) Builtin.bitOr
theorem do_sub : DenOp T (rI0 fun i j => .int (i - j)) oSub := do_int0
theorem do_mul : DenOp T (rI CMul fun i j => .int (i * j)) oMul := do_int fun a b h => by
  unfold cMul at h
  unfold CMul
  simp only [Bool.or_eq_true, Bool.and_eq_true, decide_eq_true_eq] at h
  exact h
theorem do_div : DenOp T (rI CDiv fun i j => .int (i / j)) oDiv := do_int fun a b h => by
  simp only [Bool.and_eq_true, decide_eq_true_eq] at h
  exact h
theorem do_mod : DenOp T (rI (fun _ j => 0 < j) fun i j => .int (i % j)) oMod := do_int fun a b h => of_decide_eq_true h
theorem cPow_ok {a b : Int} (h : cPow a b = true) : CPow a b := by
  unfold cPow at h
  simp only [Bool.and_eq_true, decide_eq_true_eq] at h
  exact h
theorem do_pow : DenOp T (rI CPow fun i j => .int (i ^ j.toNat)) oPow := do_int fun a b h => cPow_ok h
theorem do_shl : DenOp T (rI CPow fun i j => .int (i * 2 ^ j.toNat)) oShl := do_int fun a b h => cPow_ok h
theorem do_shr : DenOp T (rI (fun _ j => 0 ≤ j) fun i j => .int (i / 2 ^ j.toNat)) oShr := do_int fun a b h => of_decide_eq_true h
theorem do_and : DenOp T (rI0 fun i j => .int (Builtin.bitAnd i j)) oAnd := do_int0
theorem do_or : DenOp T (rI0 fun i j => .int (Builtin.bitOr i j)) oOr := do_int0
/-! ## comparisons -/
def oCmp (g : Int → Int → Bool) : DOp
  | .int a, .int b, s => .ok (.bl (g a b)) s
  | _, _, _ => .stuck
theorem do_cmp {g : Int → Int → Bool} : DenOp T (rI0 fun i j => .bl (g i j)) (oCmp g) := by
  intro x y dx dy H P ι F s Q E R rx ry post
  unfold oCmp at post
  split at post
  · unfold Rp at rx ry
    exact ⟨_, _, rx, ry, post.here R (by unfold Rp; rfl)⟩
  · exact post.elim
abbrev oLt : DOp := oCmp fun i j => decide (i < j)
abbrev oLe : DOp := oCmp fun i j => decide (i ≤ j)
abbrev oGt : DOp := oCmp fun i j => decide (j < i)
abbrev oGe : DOp := oCmp fun i j => decide (j ≤ i)
mutual
def toP : D → Option PyData
  | .non => some .none
  | .bl b => some (.bool b)
  | .int i => some (.int i)
  | .str x => some (.str (S x))
  | .lst xs => (toPs xs).map .list
  | .tup xs => (toPs xs).map .tuple
  | .scr ns => some (.list (ns.map .int))
  | _ => none
def toPs : List D → Option (List PyData)
  | [] => some []
  | x :: xs => match toP x, toPs xs with
    | some p, some ps => some (p :: ps)
    | _, _ => none
end
theorem dp_ints {K : PySem.W.Frag} {H : Hp} : ∀ (ns : List Int), DpAll K H (ns.map V.int) (ns.map PyData.int)
  | [] => .nil
  | n :: r => .cons (.int n) (dp_ints r)
mutual
theorem dp_of {P : Hp} {ι : List Addr} {F : Hp} {s : Sto} {H : Hp} (R : RelH T P ι F s H) : ∀ {d : D} {v : V} {p : PyData}, Rp T F ι d v → toP d = some p → Dp T.K H v p
  | .non, v, p, r, e => by unfold Rp at r; subst r; cases e; exact .non
  | .bl _, v, p, r, e => by unfold Rp at r; subst r; cases e; exact .bl _
  | .int _, v, p, r, e => by unfold Rp at r; subst r; cases e; exact .int _
  | .str _, v, p, r, e => by unfold Rp at r; subst r; cases e; exact .str _
  | .scr ns, v, p, r, e => by
    unfold Rp at r
    obtain ⟨a, rfl, q⟩ := r
    cases e
    exact .lst (sql_mono R.sub q) (dp_ints ns)
  | .lst xs, v, p, r, e => by
    unfold Rp at r
    obtain ⟨a, vs, rfl, q, r⟩ := r
    unfold toP at e
    cases h : toPs xs with
    | none => rw [h] at e; cases e
    | some ps => rw [h] at e; cases e; exact .lst (SqL.of (R.sub _ _ q)) (dps_of R r h)
  | .tup xs, v, p, r, e => by
    unfold Rp at r
    obtain ⟨a, vs, rfl, q, r⟩ := r
    unfold toP at e
    cases h : toPs xs with
    | none => rw [h] at e; cases e
    | some ps => rw [h] at e; cases e; exact .tup (SqT.of (R.sub _ _ q)) (dps_of R r h)
  | .dct _ _, v, p, r, e => by cases e
  | .obj _ _ _, v, p, r, e => by cases e
  | .loc _, v, p, r, e => by cases e
  | .exc _, v, p, r, e => by cases e
  | .cls _, v, p, r, e => by cases e
  | .ty _, v, p, r, e => by cases e
theorem dps_of {P : Hp} {ι : List Addr} {F : Hp} {s : Sto} {H : Hp} (R : RelH T P ι F s H) : ∀ {ds : List D} {vs : List V} {ps : List PyData}, Rps T F ι ds vs → toPs ds = some ps → DpAll T.K H vs ps
  | [], vs, ps, r, e => by unfold Rps at r; subst r; cases e; exact .nil
  | x :: xs, vs, ps, r, e => by
    unfold Rps at r
    obtain ⟨v, us, rfl, r1, r2⟩ := r
    unfold toPs at e
    cases h1 : toP x with
    | none => rw [h1] at e; cases e
    | some p =>
      cases h2 : toPs xs with
      | none => rw [h1, h2] at e; cases e
      | some qs => rw [h1, h2] at e; cases e; exact .cons (dp_of R r1 h1) (dps_of R r2 h2)
end
def toPc (s : Sto) (d : D) : Option PyData := match lsOf s d with
  | some xs => (toPs xs).map .list
  | none => toP d
theorem dpc_of {P : Hp} {ι : List Addr} {F : Hp} {s : Sto} {H : Hp} (R : RelH T P ι F s H) {d : D} {v : V} {p : PyData} (r : Rp T F ι d v) (e : toPc s d = some p) : Dp T.K H v p := by
  unfold toPc at e
  cases h : lsOf s d with
  | none => rw [h] at e; exact dp_of R r e
  | some xs =>
    rw [h] at e
    dsimp only at e
    obtain ⟨a, vs, rfl, q, r⟩ := ls_of R r h
    cases h2 : toPs xs with
    | none => rw [h2] at e; cases e
    | some ps => rw [h2] at e; cases e; exact .lst (SqL.of q) (dps_of R r h2)
/-- ==, and its contrary -/
def scD : D → D → Option Bool
  | .int a, .int b => some (a == b)
  | .str a, .str b => some (a == b)
  | .bl a, .bl b => some (a == b)
  | .non, .non => some true
  | .non, .int _ | .non, .str _ | .non, .bl _ | .int _, .non | .str _, .non | .bl _, .non => some false
  | .int _, .str _ | .str _, .int _ | .bl _, .str _ | .str _, .bl _ => some false
  | _, _ => none
def oEqG (neg : Bool) : DOp := fun x y s => match scD x y with
  | some b => .ok (.bl (neg != b)) s
  | none => match toPc s x, toPc s y with
    | some p, some q => if (SeqAt.shaped p && SeqAt.shaped q) = true then .ok (.bl (neg != PyData.eqv p q)) s else .stuck
    | _, _ => .stuck
abbrev oEq : DOp := oEqG false
abbrev oNe : DOp := oEqG true
def rEqA (K : PySem.W.Frag) : R2 := orR rEq (rEqD K)
def rNeA (K : PySem.W.Frag) : R2 := orR rNe (rNeD K)
theorem op_eqA {X : Cx} (hu : X.A.units + 64 < cLine) : OpR X (compareOp .Eq) (rEqA X.K) := OpR.or op_eq (op_eqD hu)
theorem op_neA {X : Cx} (hu : X.A.units + 64 < cLine) : OpR X (compareOp .NotEq) (rNeA X.K) := OpR.or op_ne (op_neD hu)
theorem b1 (b : Bool) : (false != b) = b := by cases b <;> rfl
theorem b2 (b : Bool) : (true != b) = !b := by cases b <;> rfl
theorem beq_dec {α : Type} [BEq α] [LawfulBEq α] [DecidableEq α] (a b : α) : (a == b) = decide (a = b) := by
  by_cases h : a = b
  · rw [decide_eq_true h]; exact beq_iff_eq.mpr h
  · rw [decide_eq_false h]; exact beq_eq_false_iff_ne.mpr h
theorem dec_i {a b : Int} : decide (V.int a = V.int b) = (a == b) := by
  rw [beq_dec]; exact decide_eq_decide.mpr ⟨fun h => by injection h, fun h => by rw [h]⟩
theorem dec_s {a b : List Nat} : decide (V.str (S a) = V.str (S b)) = (a == b) := by
  rw [beq_dec]; exact decide_eq_decide.mpr ⟨fun h => by injection h with h; exact S_inj h, fun h => by rw [h]⟩
theorem dec_b {a b : Bool} : decide (V.bl a = V.bl b) = (a == b) := by cases a <;> cases b <;> rfl
theorem scD_ok {F : Hp} {ι : List Addr} {d e : D} {v u : V} {b : Bool} (r : Rp T F ι d v) (q : Rp T F ι e u) (h : scD d e = some b) : scal v u = true ∧ decide (v = u) = b := by
  unfold scD at h
  split at h
  all_goals first | cases h | skip
  all_goals
    unfold Rp at r q
    subst r q
    first | exact ⟨rfl, dec_i⟩ | exact ⟨rfl, dec_s⟩ | exact ⟨rfl, dec_b⟩ | exact ⟨rfl, rfl⟩
theorem do_eq : DenOp T (rEqA T.K) oEq := by
  intro x y dx dy H P ι F s Q E R rx ry post
  unfold oEq oEqG at post
  split at post
  · rename_i b hb
    obtain ⟨h1, h2⟩ := scD_ok rx ry hb
    exact .inl ⟨h1, post.here R (by unfold Rp; rw [b1, h2])⟩
  · split at post
    · rename_i p q h1 h2
      split at post
      · rename_i hs
        simp only [Bool.and_eq_true] at hs
        exact .inr ⟨p, q, dpc_of R rx h1, dpc_of R ry h2, hs.1, hs.2, post.here R (by unfold Rp; rw [b1])⟩
      · exact post.elim
    · exact post.elim
theorem do_ne : DenOp T (rNeA T.K) oNe := by
  intro x y dx dy H P ι F s Q E R rx ry post
  unfold oNe oEqG at post
  split at post
  · rename_i b hb
    obtain ⟨h1, h2⟩ := scD_ok rx ry hb
    exact .inl ⟨h1, post.here R (by unfold Rp; rw [b2, h2])⟩
  · split at post
    · rename_i p q h1 h2
      split at post
      · rename_i hs
        simp only [Bool.and_eq_true] at hs
        exact .inr ⟨p, q, dpc_of R rx h1, dpc_of R ry h2, hs.1, hs.2, post.here R (by unfold Rp; rw [b2])⟩
      · exact post.elim
    · exact post.elim
/-- is None, is not None -/
def isNon : D → Bool
  | .non => true
  | _ => false
theorem isNon_ok {F : Hp} {ι : List Addr} {d : D} {v : V} (r : Rp T F ι d v) : decide (v = .non) = isNon d := by
  cases d with
  | non => unfold Rp at r; subst r; rfl
  | tup _ => unfold Rp at r; obtain ⟨_, _, rfl, _⟩ := r; rfl
  | lst _ => unfold Rp at r; obtain ⟨_, _, rfl, _⟩ := r; rfl
  | scr _ => unfold Rp at r; obtain ⟨_, rfl, _⟩ := r; rfl
  | dct _ _ => unfold Rp at r; obtain ⟨_, _, rfl, _⟩ := r; rfl
  | obj _ _ _ => unfold Rp at r; obtain ⟨_, _, _, rfl, _⟩ := r; rfl
  | loc _ => unfold Rp at r; obtain ⟨_, _, rfl⟩ := r; rfl
  | exc _ => unfold Rp at r; obtain ⟨_, rfl, _⟩ := r; rfl
  | _ => unfold Rp at r; subst r; rfl
def oIs (neg : Bool) : DOp
  | x, .non, s => .ok (.bl (neg != isNon x)) s
  | _, _, _ => .stuck
def rIsN : R2 := fun x y H Q => y = .non ∧ Q (.bl (decide (x = .non))) H
def rNotN : R2 := fun x y H Q => y = .non ∧ Q (.bl (!decide (x = .non))) H
theorem do_is : DenOp T rIsN (oIs false) := by
  intro x y dx dy H P ι F s Q E R rx ry post
  unfold oIs at post
  split at post
  · refine ⟨by unfold Rp at ry; exact ry, post.here R ?_⟩
    unfold Rp; rw [b1, isNon_ok rx]
  · exact post.elim
theorem do_isnot : DenOp T rNotN (oIs true) := by
  intro x y dx dy H P ι F s Q E R rx ry post
  unfold oIs at post
  split at post
  · refine ⟨by unfold Rp at ry; exact ry, post.here R ?_⟩
    unfold Rp; rw [b2, isNon_ok rx]
  · exact post.elim
/-! ## in a list or tuple of flat things; in a text -/
def flatD : D → Bool
  | .non | .bl _ | .int _ | .str _ => true
  | _ => false
def eqF : D → D → Bool
  | .non, .non => true
  | .bl a, .bl b => a == b
  | .bl a, .int b => (if a then 1 else 0) == b
  | .int a, .bl b => a == (if b then 1 else 0)
  | .int a, .int b => a == b
  | .str a, .str b => a == b
  | _, _ => false
def tpOf : D → Option (List D)
  | .tup xs => some xs
  | _ => none
/-- x in xs -/
def oIn (neg : Bool) : DOp := fun x y s => match (lqOf s y).or (tpOf y) with
  | some xs => if (flatD x && xs.all flatD) = true then .ok (.bl (neg != xs.any fun y => eqF y x)) s else .stuck
  | none => .stuck
theorem flat_ok {F : Hp} {ι : List Addr} {d : D} {v : V} (r : Rp T F ι d v) (h : flatD d = true) : flatV v = true := by
  cases d <;> first | (unfold Rp at r; subst r; rfl) | cases h
theorem eqF_ok {F : Hp} {ι : List Addr} {d e : D} {v u : V} (r : Rp T F ι d v) (q : Rp T F ι e u) (h : flatD d = true) (k : flatD e = true) : eqV v u = eqF d e := by
  cases d <;> first | cases h | skip
  all_goals
    cases e <;> first | cases k | skip
    all_goals
      unfold Rp at r q
      subst r q
      first
        | rfl
        | (rename_i p q
           show (S p == S q) = (p == q)
           rw [beq_dec, beq_dec]
           exact decide_eq_decide.mpr ⟨fun h => S_inj h, fun h => by rw [h]⟩)
theorem in_ok {F : Hp} {ι : List Addr} {x : D} {v : V} (r : Rp T F ι x v) (h : flatD x = true) : ∀ {ds : List D} {vs : List V}, Rps T F ι ds vs → ds.all flatD = true → vs.all flatV = true ∧ (vs.any fun y => eqV y v) = ds.any fun y => eqF y x
  | [], vs, q, _ => by unfold Rps at q; subst q; exact ⟨rfl, rfl⟩
  | d :: ds, vs, q, k => by
    unfold Rps at q
    obtain ⟨u, us, rfl, q1, q2⟩ := q
    rw [List.all_cons, Bool.and_eq_true] at k
    obtain ⟨i1, i2⟩ := in_ok r h q2 k.2
    refine ⟨by rw [List.all_cons, flat_ok q1 k.1, i1]; rfl, ?_⟩
    rw [List.any_cons, List.any_cons, eqF_ok q1 r k.1 h, i2]
theorem lqtp_of {P : Hp} {ι : List Addr} {F : Hp} {s : Sto} {H : Hp} (R : RelH T P ι F s H) {d : D} {v : V} {xs : List D} (r : Rp T F ι d v) (e : (lqOf s d).or (tpOf d) = some xs) : ∃ a vs, v = .ref a ∧ (SqL T.K H a vs ∨ SqT T.K H a vs) ∧ Rps T F ι xs vs := by
  cases h : lqOf s d with
  | some ys =>
    rw [h] at e
    cases e
    obtain ⟨a, vs, h1, h2, h3⟩ := lq_of R r h
    exact ⟨a, vs, h1, .inl h2, h3⟩
  | none =>
    rw [h] at e
    cases d with
    | tup ys =>
      cases e
      obtain ⟨a, vs, h1, h2, _, h3⟩ := tp_of R r
      exact ⟨a, vs, h1, .inr (SqT.of h2), h3⟩
    | _ => cases e
theorem do_in {neg : Bool} : DenOp T (rIn T.K neg) (oIn neg) := by
  intro x y dx dy H P ι F s Q E R rx ry post
  unfold oIn at post
  split at post
  · rename_i xs h
    obtain ⟨a, vs, rfl, h2, h3⟩ := lqtp_of R ry h
    split at post
    · rename_i hf
      simp only [Bool.and_eq_true] at hf
      obtain ⟨i1, i2⟩ := in_ok rx hf.1 h3 hf.2
      refine ⟨a, vs, rfl, h2, flat_ok rx hf.1, i1, post.here R ?_⟩
      unfold Rp inV
      rw [i2]
      cases neg <;> simp
    · exact post.elim
  · exact post.elim
/-- one sign in a text -/
def oInS (neg : Bool) : DOp
  | .str [c], .str z, s => .ok (.bl (neg != decide (c ∈ z))) s
  | _, _, _ => .stuck
def rInS : R2 := fun x y H Q => ∃ (c : Nat) (z : Str), x = .str ⟨#[c]⟩ ∧ y = .str z ∧ Q (.bl (decide (c ∈ z.cps.toList))) H
def rNotInS : R2 := fun x y H Q => ∃ (c : Nat) (z : Str), x = .str ⟨#[c]⟩ ∧ y = .str z ∧ Q (.bl (!decide (c ∈ z.cps.toList))) H
theorem do_inS : DenOp T rInS (oInS false) := by
  intro x y dx dy H P ι F s Q E R rx ry post
  unfold oInS at post
  split at post
  · unfold Rp at rx ry
    exact ⟨_, _, rx, ry, post.here R (by unfold Rp; rw [b1]; exact congrArg V.bl (decide_eq_decide.mpr (by simp [S])))⟩
  · exact post.elim
theorem do_notInS : DenOp T rNotInS (oInS true) := by
  intro x y dx dy H P ι F s Q E R rx ry post
  unfold oInS at post
  split at post
  · unfold Rp at rx ry
    exact ⟨_, _, rx, ry, post.here R (by unfold Rp; rw [b2]; exact congrArg V.bl (congrArg Bool.not (decide_eq_decide.mpr (by simp [S]))))⟩
  · exact post.elim
/-! ## subscripts -/
theorem at_ok {F : Hp} {ι : List Addr} {ds : List D} {vs : List V} {i : Int} {d : D} (r : Rps T F ι ds vs) (h : atI ds i = some d) : ∃ v, atI vs i = some v ∧ Rp T F ι d v := by
  unfold atI at h ⊢
  rw [← r.len]
  cases e : ixN ds.length i with
  | none => rw [e] at h; cases h
  | some j =>
    rw [e] at h
    exact r.get h
def oIx : DOp
  | .str z, .int i, s => if z.length ≤ lim then match atI z i with
    | some c => .ok (.str [c]) s
    | none => .stuck
    else .stuck
  | x, .int i, s => match (lqOf s x).or (tpOf x) with
    | some xs => match atI xs i with
      | some d => .ok d s
      | none => .stuck
    | none => .stuck
  | _, _, _ => .stuck
theorem do_ix : DenOp T (rIx T.K) oIx := by
  intro x y dx dy H P ι F s Q E R rx ry post
  unfold oIx at post
  split at post
  · split at post
    · rename_i hl
      split at post
      · rename_i c hc
        unfold Rp at rx ry
        refine .inr (.inr ⟨S _, _, c, rx, ry, by rw [S_len]; exact lim_le hl, ?_, post.here R (by unfold Rp; rfl)⟩)
        simpa [S] using hc
      · exact post.elim
    · exact post.elim
  · split at post
    · rename_i xs h
      split at post
      · rename_i d hd
        unfold Rp at ry
        obtain ⟨a, vs, rfl, h2, h3⟩ := lqtp_of R rx h
        obtain ⟨v, h4, h5⟩ := at_ok h3 hd
        rcases h2 with h2 | h2
        · exact .inl ⟨a, vs, _, v, rfl, ry, h2, h4, post.here R h5⟩
        · exact .inr (.inl ⟨a, vs, _, v, rfl, ry, h2, h4, post.here R h5⟩)
      · exact post.elim
    · exact post.elim
  · exact post.elim
theorem d_ix {X : Cx} {a b : Expr} {pos : Pos} {fa fb : DE} (ha : PDe T X a fa) (hb : PDe T X b fb) (hs : PlainIx b := by exact fun _ _ => rfl) (hK : X.K = T.K := by rfl) : PDe T X (.Subscript a b pos) (dOp oIx fa fb) := fun pn xe W tk => by
  obtain ⟨t1, p1, d1⟩ := ha pn xe W tk
  obtain ⟨t2, p2, d2⟩ := hb pn xe W tk
  exact ⟨_, pe_ix (X := X.tr pn xe) ix_seq p1 p2 hs, den_op (by show DenOp T (rIx X.K) oIx; rw [hK]; exact do_ix) d1 d2⟩
/-! ## slices -/
def cutL {α : Type} (xs : List α) (lo hi : Option Int) : List α := (xs.drop (HT.sIx xs.length 0 lo)).take (HT.sIx xs.length xs.length hi - HT.sIx xs.length 0 lo)
theorem cut_ok {F : Hp} {ι : List Addr} {ds : List D} {vs : List V} (r : Rps T F ι ds vs) (lo hi : Option Int) : Rps T F ι (cutL ds lo hi) (cutV vs lo hi) := by
  unfold cutL cutV
  rw [← r.len]
  exact (r.drop _).take _
abbrev DOI := Env → Sto → Res (Option Int)
def pNone : DOI := fun _ s => .ok none s
def pSome (f : DE) : DOI := fun δ s => (f δ s).bind fun x s1 => match x with
  | .int i => .ok (some i) s1
  | _ => .stuck
def PDo (T : Tb) (X : Cx) (e : Option Expr) (f : DOI) : Prop := ∀ pn xe W, Takes (X.tr pn xe) W → ∃ t, PO (X.tr pn xe) e t ∧ DenG T eqR W t f
theorem o_none {X : Cx} : PDo T X none pNone := fun pn xe W _ => ⟨_, po_none, fun _ _ _ _ _ _ _ _ R _ post => post.here R rfl⟩
theorem o_some {X : Cx} {e : Expr} {f : DE} (h : PDe T X e f) : PDo T X (some e) (pSome f) := fun pn xe W tk => by
  obtain ⟨t1, p1, d1⟩ := h pn xe W tk
  refine ⟨_, po_some p1, fun σ H P ι F δ s Q R E post => ?_⟩
  show t1 σ H _
  refine den_then d1 R E post fun x y H1 ι1 F1 s1 g1 R1 E1 r1 post1 => ?_
  cases x with
  | int i =>
    unfold Rp at r1
    exact ⟨i, r1, post1.here R1 rfl⟩
  | _ => exact post1.elim
def oSl (x : D) (lo hi : Option Int) (s : Sto) : Res D := match x with
  | .str z => if z.length ≤ lim then .ok (.str (cutL z lo hi)) s else .stuck
  | .tup xs => if HT.sIx xs.length 0 lo = 0 ∧ HT.sIx xs.length xs.length hi = xs.length then .stuck else .ok (.tup (cutL xs lo hi)) s
  | x => match lqOf s x with
    | some xs => .ok (.lst (cutL xs lo hi)) s
    | none => .stuck
def dSl (f : DE) (lo hi : DOI) : DE := fun δ s => (f δ s).bind fun x s1 => (lo δ s1).bind fun l s2 => (hi δ s2).bind fun u s3 => oSl x l u s3
theorem d_sl {X : Cx} {e : Expr} {lo hi : Option Expr} {p2 pos : Pos} {f : DE} {g h : DOI} (he : PDe T X e f) (hl : PDo T X lo g) (hh : PDo T X hi h) (hK : X.K = T.K := by rfl) : PDe T X (.Subscript e (.Slice lo hi none p2) pos) (dSl f g h) := fun pn xe W tk => by
  obtain ⟨t1, p1, d1⟩ := he pn xe W tk
  obtain ⟨t2, p2, d2⟩ := hl pn xe W tk
  obtain ⟨t3, p3, d3⟩ := hh pn xe W tk
  refine ⟨_, pe_slice (X := X.tr pn xe) (sl_list.or (sl_tup.or sl_str)) p1 p2 p3, fun σ H P ι F δ s Q R E post => ?_⟩
  show t1 σ H _
  refine den_then d1 R E post fun x y H1 ι1 F1 s1 g1 R1 E1 r1 post1 => ?_
  refine den_then d2 R1 E1 post1 fun l l' H2 ι2 F2 s2 g2 R2 E2 r2 post2 => ?_
  refine den_then d3 R2 E2 post2 fun u u' H3 ι3 F3 s3 g3 R3 E3 r3 post3 => ?_
  cases r2
  cases r3
  have rx := (r1.mono g2).mono g3
  have hK' : (X.tr pn xe).K = T.K := hK
  rw [hK']
  unfold oSl at post3
  split at post3
  · rename_i z
    split at post3
    · rename_i hz
      unfold Rp at rx
      refine .inr (.inr ⟨S z, rx, by rw [S_len]; exact lim_le hz, post3.here R3 ?_⟩)
      unfold Rp cutS cutL
      simp [S, Str.length]
    · exact post3.elim
  · rename_i xs
    split at post3
    · exact post3.elim
    · rename_i hw
      obtain ⟨a, vs, rfl, h2, _, h3⟩ := tp_of R3 rx
      refine .inr (.inl ⟨a, vs, rfl, SqT.of h2, by rw [← h3.len]; exact hw, fun p hp => ?_⟩)
      refine post3.new R3 hp fun g => ?_
      unfold Rp
      exact ⟨p, _, rfl, upd_same, (cut_ok h3 l u).mono g⟩
  · split at post3
    · rename_i xs h
      obtain ⟨a, vs, rfl, h2, h3⟩ := lq_of R3 rx h
      refine .inl ⟨a, vs, rfl, h2, fun p hp => ?_⟩
      refine post3.new R3 hp fun g => ?_
      unfold Rp
      exact ⟨p, _, rfl, upd_same, (cut_ok h3 l u).mono g⟩
    · exact post3.elim
/-! ## displays -/
def dTup (f : DA) : DE := fun δ s => (f δ s).bind fun xs s1 => if xs.length ≤ lim then .ok (.tup xs) s1 else .stuck
def dLst (f : DA) : DE := fun δ s => (f δ s).bind fun xs s1 => if xs.length ≤ lim then .ok (.lst xs) s1 else .stuck
theorem d_tup {X : Cx} {es : List Expr} {x1 : Nat} {pos : Pos} {f : DA} (h : PDa T X es f) : PDe T X (.Tuple es x1 pos) (dTup f) := fun pn xe W tk => by
  obtain ⟨t1, p1, d1⟩ := h pn xe W tk
  refine ⟨_, pe_tup p1, fun σ H P ι F δ s Q R E post => ?_⟩
  show t1 σ H _
  refine den_then d1 R E post fun x y H1 ι1 F1 s1 g1 R1 E1 r1 post1 => ?_
  split at post1
  · rename_i hl
    refine ⟨by rw [← r1.1.len]; exact lim_le hl, fun p hp => post1.new R1 hp fun g => ?_⟩
    unfold Rp
    exact ⟨p, _, rfl, upd_same, r1.1.mono g⟩
  · exact post1.elim
theorem d_lst {X : Cx} {es : List Expr} {pos : Pos} {f : DA} (h : PDa T X es f) : PDe T X (.List es pos) (dLst f) := fun pn xe W tk => by
  obtain ⟨t1, p1, d1⟩ := h pn xe W tk
  refine ⟨_, pe_lst p1, fun σ H P ι F δ s Q R E post => ?_⟩
  show t1 σ H _
  refine den_then d1 R E post fun x y H1 ι1 F1 s1 g1 R1 E1 r1 post1 => ?_
  split at post1
  · rename_i hl
    refine ⟨by rw [← r1.1.len]; exact lim_le hl, fun p hp => post1.new R1 hp fun g => ?_⟩
    unfold Rp
    exact ⟨p, _, rfl, upd_same, r1.1.mono g⟩
  · exact post1.elim
/-! ## unary minus -/
def dUn (g : Int → Int) (f : DE) : DE := fun δ s => (f δ s).bind fun x s1 => match x with
  | .int i => .ok (.int (g i)) s1
  | _ => .stuck
theorem d_neg {X : Cx} {a : Expr} {pos : Pos} {f : DE} (h : PDe T X a f) : PDe T X (.UnaryOp .USub a pos) (dUn (fun i => -i) f) := fun pn xe W tk => by
  obtain ⟨t1, p1, d1⟩ := h pn xe W tk
  refine ⟨_, pe_un un_neg p1, fun σ H P ι F δ s Q R E post => ?_⟩
  show t1 σ H _
  refine den_then d1 R E post fun x y H1 ι1 F1 s1 g1 R1 E1 r1 post1 => ?_
  cases x with
  | int i =>
    unfold Rp at r1
    exact ⟨i, r1, post1.here R1 (by unfold Rp; rfl)⟩
  | _ => exact post1.elim
end
end Mp
/-! # MpD -/
namespace Mp
open PySem PySem.Spec L2

/-! ## statements -/
inductive Out where
  | nx (δ : Env) (s : Sto) | rt (d : D) (s : Sto) | bk (δ : Env) (s : Sto) | ct (δ : Env) (s : Sto) | ex (c : Nat) (δ : Env) (s : Sto) | stuck
abbrev DS := Env → Sto → Out
def PostS (T : Tb) (P : Hp) (En : Ends) (W : WX) (F : Hp) (ι : List Addr) : Out → Prop
  | .nx δ' s' => ∀ σ' H' ι' F', Grow F ι F' ι' → RelH T P ι' F' s' H' → REnv T F' ι' δ' σ' → En.nx σ' H'
  | .bk δ' s' => ∀ σ' H' ι' F', Grow F ι F' ι' → RelH T P ι' F' s' H' → REnv T F' ι' δ' σ' → En.bk σ' H'
  | .ct δ' s' => ∀ σ' H' ι' F', Grow F ι F' ι' → RelH T P ι' F' s' H' → REnv T F' ι' δ' σ' → En.ct σ' H'
  | .rt d s' => ∀ v H' ι' F', Grow F ι F' ι' → RelH T P ι' F' s' H' → Rp T F' ι' d v → En.rt v H'
  | .ex c δ' s' => ∀ σ' H' ι' F', Grow F ι F' ι' → RelH T P ι' F' s' H' → REnv T F' ι' δ' σ' → W (.ref (T.ca c)) none σ' H'
  | .stuck => False
theorem PostS.mono {T : Tb} {P : Hp} {En : Ends} {W : WX} {F F1 : Hp} {ι ι1 : List Addr} {r : Out} (g : Grow F ι F1 ι1) (h : PostS T P En W F ι r) : PostS T P En W F1 ι1 r := by
  cases r with
  | stuck => exact h
  | _ => exact fun v H' ι' F' g' => h v H' ι' F' (g.trans g')
def DenS (T : Tb) (W : WX) (t : TS) (g : DS) : Prop := ∀ En σ H P ι F δ s, RelH T P ι F s H → REnv T F ι δ σ → PostS T P En W F ι (g δ s) → t En σ H
def PDs (T : Tb) (X : Cx) (st : Stmt) (g : DS) : Prop := ∀ pn xe W, Takes (X.tr pn xe) W → PassesOwn (model X.prog X.w) X.A X.env xe → ∃ t, PS (X.tr pn xe) st t ∧ DenS T W t g
def PDb (T : Tb) (X : Cx) (st : List Stmt) (g : DS) : Prop := ∀ pn xe W, Takes (X.tr pn xe) W → PassesOwn (model X.prog X.w) X.A X.env xe → ∃ t, PSs (X.tr pn xe) st t ∧ DenS T W t g
/-- a value, then a statement's end -/
def Res.out {α : Type} (δ : Env) : Res α → (α → Sto → Out) → Out
  | .ok a s, k => k a s
  | .exc c s, _ => .ex c δ s
  | .stuck, _ => .stuck
theorem dens_then {α β : Type} {T : Tb} {R1 : Hp → List Addr → α → β → Prop} {W : WX} {t : L2.St → Hp → (β → Hp → Prop) → Prop} {f : Env → Sto → Res α} {k : α → Sto → Out}
    {σ : L2.St} {H P : Hp} {ι : List Addr} {F : Hp} {δ : Env} {s : Sto} {En : Ends} {G : β → Hp → Prop} (h1 : DenG T R1 W t f) (R : RelH T P ι F s H) (E : REnv T F ι δ σ)
    (post : PostS T P En W F ι ((f δ s).out δ k))
    (hk : ∀ x y H1 ι1 F1 s1, Grow F ι F1 ι1 → RelH T P ι1 F1 s1 H1 → REnv T F1 ι1 δ σ → R1 F1 ι1 x y → PostS T P En W F1 ι1 (k x s1) → G y H1) : t σ H G := by
  refine h1 σ H P ι F δ s G R E ?_
  cases e : f δ s with
  | ok x s1 =>
    rw [e] at post
    exact fun v H' ι' F' g R' r => hk x v H' ι' F' s1 g R' (E.mono g) r (post.mono g)
  | exc c s1 =>
    rw [e] at post
    exact fun H' ι' F' g R' => post σ H' ι' F' g R' (E.mono g)
  | stuck =>
    rw [e] at post
    exact post
/-! ## targets -/
abbrev DTg := D → Env → Option Env
def tgN (i : Nat) : DTg := fun d δ => some (δ.set i (some d))
def tgs : List DTg → List D → Env → Option Env
  | [], [], δ => some δ
  | t :: ts, d :: ds, δ => (t d δ).bind fun δ1 => tgs ts ds δ1
  | _, _, _ => none
def tgT (ts : List DTg) : DTg := fun d δ => match d with
  | .tup xs => tgs ts xs δ
  | _ => none
/-- apart from the slots ws they are the same -/
def Off (ws : List Nat) (σ σ' : L2.St) : Prop := σ'.length = σ.length ∧ ∀ j, j ∉ ws → σ'[j]? = σ[j]?
def DenT (T : Tb) (ws : List Nat) (g : TG) (f : DTg) : Prop := ∀ σ H P ι F δ δ' s d v Q, RelH T P ι F s H → REnv T F ι δ σ → Rp T F ι d v → f d δ = some δ' → (∀ σ', REnv T F ι δ' σ' → Off ws σ σ' → Q σ' H) → g v σ H Q
def DenTs (T : Tb) (ws : List Nat) (g : TGs) (f : List DTg) : Prop := ∀ σ H P ι F δ δ' s ds vs Q, RelH T P ι F s H → REnv T F ι δ σ → Rps T F ι ds vs → tgs f ds δ = some δ' → (∀ σ', REnv T F ι δ' σ' → Off ws σ σ' → Q σ' H) → g vs σ H Q
def PDg (T : Tb) (X : Cx) (tg : Expr) (ws : List Nat) (f : DTg) : Prop := ∀ pn xe, ∃ g, PG (X.tr pn xe) tg g ∧ DenT T ws g f
def PDgs (T : Tb) (X : Cx) (tg : List Expr) (ws : List Nat) (f : List DTg) : Prop := ∀ pn xe, ∃ g, PGs (X.tr pn xe) tg g ∧ DenTs T ws g f
theorem Off.refl (ws : List Nat) (σ : L2.St) : Off ws σ σ := ⟨rfl, fun _ _ => rfl⟩
theorem Off.set (σ : L2.St) (i : Nat) (o : Option V) : Off [i] σ (σ.set i o) := ⟨by simp, fun j hj => by rw [List.getElem?_set_ne (by intro h; exact hj (by simp [h]))]⟩
theorem Off.app {ws vs : List Nat} {a b c : L2.St} (h : Off ws a b) (k : Off vs b c) : Off (ws ++ vs) a c :=
  ⟨k.1.trans h.1, fun j hj => (k.2 j (fun z => hj (List.mem_append_right _ z))).trans (h.2 j (fun z => hj (List.mem_append_left _ z)))⟩
theorem wipe_at (σ : L2.St) (j : Nat) : ∀ vs : List Nat, (wipe σ vs)[j]? = if j ∈ vs ∧ j < σ.length then some none else σ[j]?
  | [] => by simp [wipe]
  | v :: vs => by
    unfold wipe
    rw [List.getElem?_set, wipe_length, wipe_at σ j vs]
    by_cases h : v = j
    · subst h
      by_cases hl : v < σ.length
      · simp [hl]
      · simp [hl, List.getElem?_eq_none (Nat.le_of_not_lt hl)]
    · have h' : ¬ j = v := fun z => h z.symm
      simp [h, h']
theorem Off.wipe {ws vs : List Nat} {σ σ' : L2.St} (h : Off ws σ σ') (hs : ∀ i ∈ ws, i ∈ vs) : L2.wipe σ' vs = L2.wipe σ vs := by
  refine List.ext_getElem? fun j => ?_
  rw [wipe_at, wipe_at, h.1]
  by_cases c : j ∈ vs ∧ j < σ.length
  · rw [if_pos c, if_pos c]
  · rw [if_neg c, if_neg c]
    by_cases hj : j ∈ ws
    · have hl : ¬ j < σ.length := fun z => c ⟨hs j hj, z⟩
      rw [List.getElem?_eq_none (Nat.le_of_not_lt hl), List.getElem?_eq_none (by rw [h.1]; exact Nat.le_of_not_lt hl)]
    · exact h.2 j hj
section
variable {T : Tb} {X : Cx}
theorem g_name {x : Str} {pos : Pos} (i : Nat) (hN : X.N.Nodup) (hi : X.N[i]? = some x := by rfl) (hx : Loc X.env.scope x := by first | exact Or.inl rfl | exact Or.inr rfl) (hf : X.fn x = true ∨ X.env.scope.names.lookup x = some .local := by first | exact .inl rfl | exact .inr rfl) : PDg T X (.Name x pos) [i] (tgN i) := fun pn xe =>
  ⟨_, pg_name (X := X.tr pn xe) hN hi hx hf, fun σ H P ι F δ δ' s d v Q R E r e k => by
    cases e
    exact k _ (E.set r i) (Off.set _ _ _)⟩
theorem gs_nil : PDgs T X [] [] [] := fun pn xe => ⟨_, pgs_nil, fun σ H P ι F δ δ' s ds vs Q R E r e k => by
    cases ds with
    | nil =>
      unfold Rps at r
      subst r
      cases e
      exact ⟨rfl, k _ E (Off.refl _ _)⟩
    | cons d ds => cases e⟩
theorem gs_cons {e : Expr} {es : List Expr} {ws vs : List Nat} {f : DTg} {fs : List DTg} (h1 : PDg T X e ws f) (h2 : PDgs T X es vs fs) (hs : (assignEach (e :: es) X.env).map (·.2) = assign e X.env :: (assignEach es X.env).map (·.2) := by rfl) : PDgs T X (e :: es) (ws ++ vs) (f :: fs) := fun pn xe => by
  obtain ⟨g1, p1, d1⟩ := h1 pn xe
  obtain ⟨g2, p2, d2⟩ := h2 pn xe
  refine ⟨_, pgs_cons (X := X.tr pn xe) p1 p2 hs, fun σ H P ι F δ δ' s ds vs Q R E r e k => ?_⟩
  cases ds with
  | nil => cases e
  | cons d ds =>
    unfold Rps at r
    obtain ⟨v, us, rfl, r1, r2⟩ := r
    have e' : (f d δ).bind (fun δ1 => tgs fs ds δ1) = some δ' := e
    cases q : f d δ with
    | none => rw [q] at e'; cases e'
    | some δ1 =>
      rw [q] at e'
      exact ⟨v, us, rfl, d1 _ _ _ _ _ _ _ _ _ _ _ R E r1 q fun σ1 E1 o1 => d2 _ _ _ _ _ _ _ _ _ _ _ R E1 r2 e' fun σ2 E2 o2 => k σ2 E2 (o1.app o2)⟩
theorem tgs_len : ∀ {ts : List DTg} {ds : List D} {δ δ' : Env}, tgs ts ds δ = some δ' → ds.length = ts.length
  | [], [], _, _, _ => rfl
  | [], _ :: _, _, _, e => by cases e
  | _ :: _, [], _, _, e => by cases e
  | t :: ts, d :: ds, δ, δ', e => by
    have e' : (t d δ).bind (fun δ1 => tgs ts ds δ1) = some δ' := e
    cases q : t d δ with
    | none => rw [q] at e'; cases e'
    | some δ1 => rw [q] at e'; simp [tgs_len e']
theorem g_tup {es : List Expr} {k : Nat} {pos : Pos} {ws : List Nat} {fs : List DTg} (h : PDgs T X es ws fs) (hn : (assignEach es X.env).length = fs.length := by rfl) (hst : (assignEach es X.env).findIdx? (·.1) = none := by rfl) (hc : X.calm = true := by rfl) (hK : X.K = T.K := by rfl) : PDg T X (.Tuple es k pos) ws (tgT fs) := fun pn xe => by
  obtain ⟨g1, p1, d1⟩ := h pn xe
  refine ⟨_, pg_tup (X := X.tr pn xe) hc p1 hn hst, fun σ H P ι F δ δ' s d v Q R E r e k => ?_⟩
  cases d with
  | tup xs =>
    obtain ⟨a, vs, rfl, h1, _, h2⟩ := tp_of R r
    have e' : tgs fs xs δ = some δ' := e
    refine ⟨a, vs, rfl, SqT.of h1, ?_, d1 _ _ _ _ _ _ _ _ _ _ _ R E h2 e' k⟩
    rw [← h2.len]
    exact tgs_len e'
  | _ => cases e
/-! ## simple statements -/
def sAsg (f : DE) (t : DTg) : DS := fun δ s => (f δ s).out δ fun d s1 => match t d δ with
  | some δ1 => .nx δ1 s1
  | none => .stuck
theorem s_asg {tg e : Expr} {pos : Pos} {f : DE} {ws : List Nat} {t : DTg} (he : PDe T X e f) (hg : PDg T X tg ws t) (hs : swapsWithSole [tg] e pos.line X.env = pure false := by rfl) (hw : swappedStores [tg] e X.env = pure none := by rfl)
    (h1 : (assignEach [tg] X.env).map (·.2) = [assign tg X.env] := by rfl) : PDs T X (.Assign [tg] e pos) (sAsg f t) := fun pn xe W tk _ => by
  obtain ⟨t1, p1, d1⟩ := he pn xe W tk
  obtain ⟨g1, q1, e1⟩ := hg pn xe
  refine ⟨_, ps_asg (X := X.tr pn xe) p1 q1 hs hw h1, fun En σ H P ι F δ s R E post => ?_⟩
  show t1 σ H _
  refine dens_then d1 R E post fun x y H1 ι1 F1 s1 g R1 E1 r1 post1 => ?_
  cases q : t x δ with
  | none => rw [q] at post1; exact post1.elim
  | some δ1 =>
    rw [q] at post1
    exact e1 _ _ _ _ _ _ _ _ _ _ _ R1 E1 r1 q fun σ' E' _ => post1 σ' H1 ι1 F1 (Grow.refl _ _) R1 E'
def sSet (i : Nat) (f : DE) : DS := sAsg f (tgN i)
theorem s_set {x : Str} {e : Expr} {pos pos' : Pos} {f : DE} (i : Nat) (hN : X.N.Nodup) (he : PDe T X e f) (hi : X.N[i]? = some x := by rfl) (hx : Loc X.env.scope x := by first | exact Or.inl rfl | exact Or.inr rfl)
    (hs : swapsWith e (some (.Name x pos')) pos.line X.env = pure false := by rfl) (hf : X.fn x = true ∨ X.env.scope.names.lookup x = some .local := by first | exact .inl rfl | exact .inr rfl) : PDs T X (.Assign [.Name x pos'] e pos) (sSet i f) := fun pn xe W tk _ => by
  obtain ⟨t1, p1, d1⟩ := he pn xe W tk
  refine ⟨_, ps_set (X := X.tr pn xe) hN hi hx p1 hs hf, fun En σ H P ι F δ s R E post => ?_⟩
  show t1 σ H _
  refine dens_then d1 R E post fun x y H1 ι1 F1 s1 g R1 E1 r1 post1 => ?_
  exact post1 _ H1 ι1 F1 (Grow.refl _ _) R1 (E1.set r1 i)
def sDrop (f : DE) : DS := fun δ s => (f δ s).out δ fun _ s1 => .nx δ s1
theorem s_expr {e : Expr} {pos : Pos} {f : DE} (he : PDe T X e f) (hs : swapsWith e none pos.line X.env = pure false := by rfl) : PDs T X (.Expr e pos) (sDrop f) := fun pn xe W tk _ => by
  obtain ⟨t1, p1, d1⟩ := he pn xe W tk
  refine ⟨_, ps_expr (X := X.tr pn xe) p1 hs, fun En σ H P ι F δ s R E post => ?_⟩
  show t1 σ H _
  refine dens_then d1 R E post fun x y H1 ι1 F1 s1 g R1 E1 r1 post1 => ?_
  exact post1 _ H1 ι1 F1 (Grow.refl _ _) R1 E1
def sRet (f : DE) : DS := fun δ s => (f δ s).out δ fun d s1 => .rt d s1
theorem s_ret {e : Expr} {pos : Pos} {f : DE} (he : PDe T X e f) : PDs T X (.Return (some e) pos) (sRet f) := fun pn xe W tk _ => by
  obtain ⟨t1, p1, d1⟩ := he pn xe W tk
  refine ⟨_, ps_ret p1, fun En σ H P ι F δ s R E post => ?_⟩
  show t1 σ H _
  refine dens_then d1 R E post fun x y H1 ι1 F1 s1 g R1 E1 r1 post1 => ?_
  exact post1 y H1 ι1 F1 (Grow.refl _ _) R1 r1
def sRetN : DS := fun _ s => .rt .non s
theorem s_retN {pos : Pos} : PDs T X (.Return none pos) sRetN := fun pn xe W _ _ => ⟨_, ps_retN, fun En σ H P ι F δ s R E post => post .non H ι F (Grow.refl _ _) R (by unfold Rp; rfl)⟩
def sPass : DS := fun δ s => .nx δ s
def sBrk : DS := fun δ s => .bk δ s
def sCt : DS := fun δ s => .ct δ s
theorem s_pass {pos : Pos} : PDs T X (.Pass pos) sPass := fun pn xe W _ _ => ⟨_, ps_pass, fun En σ H P ι F δ s R E post => post σ H ι F (Grow.refl _ _) R E⟩
theorem s_brk {pos : Pos} : PDs T X (.Break pos) sBrk := fun pn xe W _ _ => ⟨_, ps_break, fun En σ H P ι F δ s R E post => post σ H ι F (Grow.refl _ _) R E⟩
theorem s_ct {pos : Pos} : PDs T X (.Continue pos) sCt := fun pn xe W _ _ => ⟨_, ps_continue, fun En σ H P ι F δ s R E post => post σ H ι F (Grow.refl _ _) R E⟩
def sIf (c : DT) (f g : DS) : DS := fun δ s => (c δ s).out δ fun b s1 => match b with
  | true => f δ s1
  | false => g δ s1
theorem s_if {c : Expr} {a b : List Stmt} {pos : Pos} {fc : DT} {f g : DS} (hc : PDt T X c fc) (ha : PDb T X a f) (hb : PDb T X b g) : PDs T X (.If c a b pos) (sIf fc f g) := fun pn xe W tk ow => by
  obtain ⟨t0, p0, d0⟩ := hc pn xe W tk
  obtain ⟨t1, p1, d1⟩ := ha pn xe W tk ow
  obtain ⟨t2, p2, d2⟩ := hb pn xe W tk ow
  refine ⟨_, ps_if p0 p1 p2, fun En σ H P ι F δ s R E post => ?_⟩
  show t0 σ H _
  refine dens_then d0 R E post fun x y H1 ι1 F1 s1 g R1 E1 r1 post1 => ?_
  cases r1
  cases x with
  | true =>
    rw [if_pos rfl]
    exact d1 _ _ _ _ _ _ _ _ R1 E1 post1
  | false =>
    rw [if_neg Bool.false_ne_true]
    exact d2 _ _ _ _ _ _ _ _ R1 E1 post1
/-! ## blocks -/
def Out.andThen (o : Out) (k : DS) : Out := match o with
  | .nx δ s => k δ s
  | o => o
def sSeq (f g : DS) : DS := fun δ s => (f δ s).andThen g
theorem b_nil : PDb T X [] sPass := fun pn xe W _ _ => ⟨_, pss_nil, fun En σ H P ι F δ s R E post => post σ H ι F (Grow.refl _ _) R E⟩
theorem b_one {st : Stmt} {f : DS} (h : PDs T X st f) : PDb T X [st] f := fun pn xe W tk ow => by
  obtain ⟨t1, p1, d1⟩ := h pn xe W tk ow
  exact ⟨_, pss_one p1, d1⟩
theorem b_cons {st : Stmt} {rest : List Stmt} {f g : DS} (h : PDs T X st f) (hr : PDb T X rest g) : PDb T X (st :: rest) (sSeq f g) := fun pn xe W tk ow => by
  obtain ⟨t1, p1, d1⟩ := h pn xe W tk ow
  obtain ⟨t2, p2, d2⟩ := hr pn xe W tk ow
  refine ⟨_, pss_cons p1 p2, fun En σ H P ι F δ s R E post => ?_⟩
  show t1 { En with nx := t2 En } σ H
  refine d1 _ _ _ _ _ _ _ _ R E ?_
  unfold sSeq at post
  cases e : f δ s with
  | nx δ1 s1 =>
    rw [e] at post
    exact fun σ' H' ι' F' g' R' E' => d2 _ _ _ _ _ _ _ _ R' E' (post.mono g')
  | rt d s1 => rw [e] at post; exact post
  | bk δ1 s1 => rw [e] at post; exact post
  | ct δ1 s1 => rw [e] at post; exact post
  | ex c δ1 s1 => rw [e] at post; exact post
  | stuck => rw [e] at post; exact post
/-! ## iterables -/
def Walks (T : Tb) (J : It) (ds : List D) (F : Hp) (ι : List Addr) : Prop :=
  L2.Walk J ds.length (fun H => ∀ a o, F a = some o → H a = some o) fun i H x H2 => ∃ d, ds[i]? = some d ∧
    ((H2 = H ∧ Rp T F ι d x) ∨ ∃ p vs xs, x = .ref p ∧ H p = none ∧ H2 = upd H p (.tup vs) ∧ d = .tup xs ∧ Rps T F ι xs vs)
abbrev DIt := Env → Sto → Res (List D)
def DenI (T : Tb) (W : WX) (wi : TI) (f : DIt) : Prop := DenG T (fun F ι ds J => Walks T J ds F ι) W wi f
def PDi (T : Tb) (X : Cx) (tg iter : Expr) (f : DIt) : Prop := ∀ pn xe W, Takes (X.tr pn xe) W → ∃ wi, PI (X.tr pn xe) tg iter wi ∧ DenI T W wi f
theorem get_lt {α : Type} {xs : List α} {i : Nat} (h : i < xs.length) : ∃ x, xs[i]? = some x := ⟨xs[i], by simp [h]⟩
theorem walks_list {F : Hp} {ι : List Addr} {a : Addr} {vs : List V} {ds : List D} (h : SqL T.K F a vs) (r : Rps T F ι ds vs) : Walks T (Itl T.K a) ds F ι := by
  have w : L2.Walk (Itl T.K a) vs.length (fun H => SqL T.K H a vs) (YAt vs) := walk_list
  unfold Walks
  rw [r.len]
  refine w.mono (fun H hF => sql_mono hF h) fun i H x H' hi hF y => ?_
  obtain ⟨e1, e2⟩ := y
  have hi' : i < ds.length := by rw [r.len]; exact hi
  obtain ⟨d, hd⟩ := get_lt hi'
  obtain ⟨v, h1, h2⟩ := r.get hd
  rw [e2] at h1
  cases h1
  exact ⟨d, hd, .inl ⟨e1, h2⟩⟩
theorem walks_tup {F : Hp} {ι : List Addr} {a : Addr} {vs : List V} {ds : List D} (h : F a = some (.tup vs)) (r : Rps T F ι ds vs) : Walks T (Itt T.K a) ds F ι := by
  have w : L2.Walk (Itt T.K a) vs.length (fun H => SqT T.K H a vs) (YAt vs) := walk_tup
  unfold Walks
  rw [r.len]
  refine w.mono (fun H hF => SqT.of (hF _ _ h)) fun i H x H' hi hF y => ?_
  obtain ⟨e1, e2⟩ := y
  have hi' : i < ds.length := by rw [r.len]; exact hi
  obtain ⟨d, hd⟩ := get_lt hi'
  obtain ⟨v, h1, h2⟩ := r.get hd
  rw [e2] at h1
  cases h1
  exact ⟨d, hd, .inl ⟨e1, h2⟩⟩
/-- a list or a tuple that stays -/
def itSeq (f : DE) : DIt := fun δ s => (f δ s).bind fun x s1 => match x with
  | .lst xs => .ok xs s1
  | .scr ns => .ok (ns.map D.int) s1
  | .tup xs => .ok xs s1
  | _ => .stuck
theorem PI.or {tg e : Expr} {w w' : TI} (h : PI X tg e w) (h' : PI X tg e w') : PI X tg e (fun σ H R => w σ H R ∨ w' σ H R) := ⟨fun pins s σ H R I q => by
  rcases q with q | q
  · exact h.run pins s σ H R I q
  · exact h'.run pins s σ H R I q⟩
theorem den_iL {W : WX} {t : TE} {f : DE} (h : DenG T (Rp T) W t f) {σ : L2.St} {H P : Hp} {ι : List Addr} {F : Hp} {δ : Env} {s : Sto} {Q : It → Hp → Prop} (R : RelH T P ι F s H) (E : REnv T F ι δ σ)
    (post : Post T P (fun F ι ds J => Walks T J ds F ι) Q (fun c H' => W (.ref (T.ca c)) none σ H') F ι ((f δ s).bind fun x s1 => match x with
      | .lst xs => .ok xs s1
      | .scr ns => .ok (ns.map D.int) s1
      | _ => .stuck)) : iList T.K t σ H Q := by
  show t σ H _
  refine den_then h R E post fun x y H1 ι1 F1 s1 g R1 E1 r1 post1 => ?_
  cases x with
  | lst xs =>
    unfold Rp at r1
    obtain ⟨a, vs, rfl, h1, h2⟩ := r1
    exact ⟨a, rfl, ⟨vs, SqL.of (R1.sub _ _ h1)⟩, post1.here R1 (walks_list (SqL.of h1) h2)⟩
  | scr ns =>
    unfold Rp at r1
    obtain ⟨a, rfl, h1⟩ := r1
    exact ⟨a, rfl, ⟨_, sql_mono R1.sub h1⟩, post1.here R1 (walks_list h1 (rps_ints ns))⟩
  | _ => exact post1.elim
theorem den_iT {W : WX} {t : TE} {f : DE} (h : DenG T (Rp T) W t f) {σ : L2.St} {H P : Hp} {ι : List Addr} {F : Hp} {δ : Env} {s : Sto} {Q : It → Hp → Prop} (R : RelH T P ι F s H) (E : REnv T F ι δ σ)
    (post : Post T P (fun F ι ds J => Walks T J ds F ι) Q (fun c H' => W (.ref (T.ca c)) none σ H') F ι ((f δ s).bind fun x s1 => match x with
      | .tup xs => .ok xs s1
      | _ => .stuck)) : iTup T.K t σ H Q := by
  show t σ H _
  refine den_then h R E post fun x y H1 ι1 F1 s1 g R1 E1 r1 post1 => ?_
  cases x with
  | tup xs =>
    obtain ⟨a, vs, rfl, h1, h0, h2⟩ := tp_of R1 r1
    exact ⟨a, rfl, ⟨vs, SqT.of h1⟩, post1.here R1 (walks_tup h0 h2)⟩
  | _ => exact post1.elim
theorem i_seq {tg e : Expr} {f : DE} (h : PDe T X e f) (hK : X.K = T.K := by rfl) : PDi T X tg e (itSeq f) := fun pn xe W tk => by
  obtain ⟨t1, p1, d1⟩ := h pn xe W tk
  have hK' : (X.tr pn xe).K = T.K := hK
  refine ⟨_, PI.or (pi_list p1) (pi_tup p1), fun σ H P ι F δ s Q R E post => ?_⟩
  rw [hK']
  unfold itSeq at post
  cases e : f δ s with
  | ok x s1 =>
    rw [e] at post
    cases x with
    | lst xs => exact .inl (den_iL d1 R E (by rw [e]; exact post))
    | scr ns => exact .inl (den_iL d1 R E (by rw [e]; exact post))
    | tup xs => exact .inr (den_iT d1 R E (by rw [e]; exact post))
    | _ => exact post.elim
  | exc c s1 => rw [e] at post; exact .inl (den_iL d1 R E (by rw [e]; exact post))
  | stuck => rw [e] at post; exact post.elim
/-- range(n), range(a, b) -/
def intsD (a : Int) (n : Nat) : List D := (List.range n).map fun (i : Nat) => D.int (a + (i : Int))
def small62 (i : Int) : Bool := decide (-(2 ^ 62) ≤ i) && decide (i < 2 ^ 62)
def itR1 (f : DA) : DIt := fun δ s => (f δ s).bind fun xs s1 => match xs with
  | [.int n] => if small62 n = true then .ok (intsD 0 n.toNat) s1 else .stuck
  | _ => .stuck
def itR2 (f : DA) : DIt := fun δ s => (f δ s).bind fun xs s1 => match xs with
  | [.int a, .int b] => if (small62 a && small62 b) = true then .ok (intsD a (b - a).toNat) s1 else .stuck
  | _ => .stuck
theorem walks_range {F : Hp} {ι : List Addr} (a : Int) (n : Nat) : Walks T (Itr a n) (intsD a n) F ι := by
  have w : L2.Walk (Itr a n) n (fun _ => True) (YFn fun i => .int (a + i)) := walk_range
  unfold Walks
  have hl : (intsD a n).length = n := by simp [intsD]
  rw [hl]
  refine w.mono (fun H hF => trivial) fun i H x H' hi hF y => ?_
  obtain ⟨e1, e2⟩ := y
  refine ⟨.int (a + i), ?_, .inl ⟨e1, by unfold Rp; exact e2⟩⟩
  simp [intsD, List.getElem?_range hi]
theorem rps1 {F : Hp} {ι : List Addr} {d : D} {vs : List V} (r : Rps T F ι [d] vs) : ∃ v, vs = [v] ∧ Rp T F ι d v := by
  unfold Rps at r
  obtain ⟨v, us, rfl, h1, h2⟩ := r
  unfold Rps at h2
  subst h2
  exact ⟨v, rfl, h1⟩
theorem rps2 {F : Hp} {ι : List Addr} {d e : D} {vs : List V} (r : Rps T F ι [d, e] vs) : ∃ v u, vs = [v, u] ∧ Rp T F ι d v ∧ Rp T F ι e u := by
  unfold Rps at r
  obtain ⟨v, us, rfl, h1, h2⟩ := r
  obtain ⟨u, rfl, h3⟩ := rps1 h2
  exact ⟨v, u, rfl, h1, h3⟩
theorem i_range1 {tg a : Expr} {p pos : Pos} {f : DA} (hm : X.mg "range" = none) (ha : PDa T X [a] f) (hg : Gl X "range" := by rfl) (hs : starEach [a] X.env = [(false, eval a X.env)] := by rfl) : PDi T X tg (.Call (.Name "range" p) [a] [] pos) (itR1 f) := fun pn xe W tk => by
  obtain ⟨t1, p1, d1⟩ := ha pn xe W tk
  refine ⟨_, pi_range1 (X := X.tr pn xe) hg hm p1 hs, fun σ H P ι F δ s Q R E post => ?_⟩
  show t1 σ H _
  refine den_then d1 R E post fun x y H1 ι1 F1 s1 g R1 E1 r1 post1 => ?_
  split at post1
  · obtain ⟨v, rfl, h1⟩ := rps1 r1.1
    unfold Rp at h1
    split at post1
    · rename_i hn
      unfold small62 at hn
      simp only [Bool.and_eq_true, decide_eq_true_eq] at hn
      exact ⟨_, by rw [h1], hn.1, hn.2, post1.here R1 (walks_range _ _)⟩
    · exact post1.elim
  · exact post1.elim
theorem i_range2 {tg a b : Expr} {p pos : Pos} {f : DA} (hm : X.mg "range" = none) (ha : PDa T X [a, b] f) (hg : Gl X "range" := by rfl) (hs : starEach [a, b] X.env = [(false, eval a X.env), (false, eval b X.env)] := by rfl) (hs2 : starEach [b] X.env = [(false, eval b X.env)] := by rfl) : PDi T X tg (.Call (.Name "range" p) [a, b] [] pos) (itR2 f) := fun pn xe W tk => by
  obtain ⟨t1, p1, d1⟩ := ha pn xe W tk
  refine ⟨_, pi_range2 (X := X.tr pn xe) hg hm p1 hs hs2, fun σ H P ι F δ s Q R E post => ?_⟩
  show t1 σ H _
  refine den_then d1 R E post fun x y H1 ι1 F1 s1 g R1 E1 r1 post1 => ?_
  split at post1
  · obtain ⟨v, u, rfl, h1, h2⟩ := rps2 r1.1
    unfold Rp at h1 h2
    split at post1
    · rename_i hn
      unfold small62 at hn
      simp only [Bool.and_eq_true, decide_eq_true_eq] at hn
      exact ⟨_, _, by rw [h1, h2], ⟨hn.1.1, hn.1.2, hn.2.1, hn.2.2⟩, post1.here R1 (walks_range _ _)⟩
    · exact post1.elim
  · exact post1.elim
/-- zip of two lists, of two tuples -/
def zipD : List D → List D → List D
  | x :: xs, y :: ys => .tup [x, y] :: zipD xs ys
  | _, _ => []
theorem zipD_len : ∀ (xs ys : List D), (zipD xs ys).length = min xs.length ys.length
  | [], _ => by simp [zipD]
  | _ :: _, [] => by simp [zipD]
  | x :: xs, y :: ys => by simp [zipD, zipD_len xs ys]
theorem zipD_at : ∀ {xs ys : List D} {i : Nat} {x y : D}, xs[i]? = some x → ys[i]? = some y → (zipD xs ys)[i]? = some (.tup [x, y])
  | [], _, _, _, _, h, _ => by simp at h
  | _ :: _, [], _, _, _, _, h => by simp at h
  | a :: xs, b :: ys, 0, x, y, h, k => by simp at h k; subst h k; rfl
  | a :: xs, b :: ys, i + 1, x, y, h, k => by
    have := zipD_at (xs := xs) (ys := ys) (i := i) (x := x) (y := y) (by simpa using h) (by simpa using k)
    simpa [zipD] using this
def itZip (f : DA) : DIt := fun δ s => (f δ s).bind fun xs s1 => match xs with
  | [.lst a, .lst b] => .ok (zipD a b) s1
  | [.tup a, .tup b] => .ok (zipD a b) s1
  | _ => .stuck
theorem walks_zip {F : Hp} {ι : List Addr} {a b : Addr} {vs us : List V} {ds es : List D} (h : SqL T.K F a vs) (h' : SqL T.K F b us) (r : Rps T F ι ds vs) (r' : Rps T F ι es us) : Walks T (Itz T.K a b) (zipD ds es) F ι := by
  have w : L2.Walk (Itz T.K a b) (min vs.length us.length) (fun H => SqL T.K H a vs ∧ SqL T.K H b us) (YPair (fun i => vs[i]?) (fun i => us[i]?)) := walk_zip rfl
  unfold Walks
  rw [zipD_len, r.len, r'.len]
  refine w.mono (fun H hF => ⟨sql_mono hF h, sql_mono hF h'⟩) fun i H x H' hi hF y => ?_
  obtain ⟨p, v, u, e1, e2, e3, e4, e5⟩ := y
  have hi1 : i < ds.length := by rw [r.len]; omega
  have hi2 : i < es.length := by rw [r'.len]; omega
  obtain ⟨d, hd⟩ := get_lt hi1
  obtain ⟨e, he⟩ := get_lt hi2
  obtain ⟨v', h1, h2⟩ := r.get hd
  obtain ⟨u', h3, h4⟩ := r'.get he
  have e4' : vs[i]? = some v := e4
  have e5' : us[i]? = some u := e5
  rw [e4'] at h1
  rw [e5'] at h3
  cases h1
  cases h3
  exact ⟨_, zipD_at hd he, .inr ⟨p, [v, u], [d, e], e1, e2, e3, rfl, .cons h2 (.cons h4 .nil)⟩⟩
theorem walk_zipT {K : PySem.W.Frag} {a b : Addr} {xs ys : List V} : L2.Walk (RZ.ItzT K a b) (min xs.length ys.length) (fun H => H a = some (.tup xs) ∧ H b = some (.tup ys)) (YPair (fun i => xs[i]?) (fun i => ys[i]?)) where
  goes := fun i H hi h => by
    obtain ⟨x, hx⟩ := get_lt (xs := xs) (i := i) (by omega)
    obtain ⟨y, hy⟩ := get_lt (xs := ys) (i := i) (by omega)
    exact ⟨xs, ys, x, y, SqT.of h.1, SqT.of h.2, hx, hy⟩
  stops := fun H h => ⟨xs, ys, SqT.of h.1, SqT.of h.2, by omega⟩
  yields := fun i H x H' hi h y => by
    obtain ⟨p, v, u, e1, e2, e3, e4, e5⟩ := y
    exact ⟨p, v, u, e1, e2, e3, e4 _ (SqT.of h.1), e5 _ (SqT.of h.2)⟩
theorem walks_zipT {F : Hp} {ι : List Addr} {a b : Addr} {vs us : List V} {ds es : List D} (h : F a = some (.tup vs)) (h' : F b = some (.tup us)) (r : Rps T F ι ds vs) (r' : Rps T F ι es us) : Walks T (RZ.ItzT T.K a b) (zipD ds es) F ι := by
  have w : L2.Walk (RZ.ItzT T.K a b) (min vs.length us.length) (fun H => H a = some (.tup vs) ∧ H b = some (.tup us)) (YPair (fun i => vs[i]?) (fun i => us[i]?)) := walk_zipT
  unfold Walks
  rw [zipD_len, r.len, r'.len]
  refine w.mono (fun H hF => ⟨hF _ _ h, hF _ _ h'⟩) fun i H x H' hi hF y => ?_
  obtain ⟨p, v, u, e1, e2, e3, e4, e5⟩ := y
  have hi1 : i < ds.length := by rw [r.len]; omega
  have hi2 : i < es.length := by rw [r'.len]; omega
  obtain ⟨d, hd⟩ := get_lt hi1
  obtain ⟨e, he⟩ := get_lt hi2
  obtain ⟨v', h1, h2⟩ := r.get hd
  obtain ⟨u', h3, h4⟩ := r'.get he
  have e4' : vs[i]? = some v := e4
  have e5' : us[i]? = some u := e5
  rw [e4'] at h1
  rw [e5'] at h3
  cases h1
  cases h3
  exact ⟨_, zipD_at hd he, .inr ⟨p, [v, u], [d, e], e1, e2, e3, rfl, .cons h2 (.cons h4 .nil)⟩⟩
theorem i_zip {e e2 : Expr} {p pos tpos : Pos} {elts : List Expr} {kk : Nat} {f : DA} (hm : X.mg "zip" = none) (ha : PDa T X [e, e2] f) (hg : Gl X "zip" := by rfl)
    (hs : starEach [e, e2] X.env = (false, eval e X.env) :: starEach [e2] X.env := by rfl) (hpl : (backTo pos (starEach [e2] X.env)).any (·.1) = false := by rfl) (hK : X.K = T.K := by rfl) :
    PDi T X (.Tuple elts kk tpos) (.Call (.Name "zip" p) [e, e2] [] pos) (itZip f) := fun pn xe W tk => by
  obtain ⟨t1, p1, d1⟩ := ha pn xe W tk
  have hK' : (X.tr pn xe).K = T.K := hK
  refine ⟨_, RZ.pi_zipA (X := X.tr pn xe) hg hm p1 hs hpl, fun σ H P ι F δ s Q R E post => ?_⟩
  rw [hK']
  show t1 σ H _
  refine den_then d1 R E post fun x y H1 ι1 F1 s1 g R1 E1 r1 post1 => ?_
  split at post1
  · obtain ⟨v, u, rfl, h1, h2⟩ := rps2 r1.1
    unfold Rp at h1 h2
    obtain ⟨a, vs, rfl, h3, h4⟩ := h1
    obtain ⟨b, us, rfl, h5, h6⟩ := h2
    exact ⟨a, b, vs, us, rfl, .inl ⟨SqL.of (R1.sub _ _ h3), SqL.of (R1.sub _ _ h5), post1.here R1 (walks_zip (SqL.of h3) (SqL.of h5) h4 h6)⟩⟩
  · obtain ⟨v, u, rfl, h1, h2⟩ := rps2 r1.1
    obtain ⟨a, vs, rfl, h3, h3', h4⟩ := tp_of R1 h1
    obtain ⟨b, us, rfl, h5, h5', h6⟩ := tp_of R1 h2
    exact ⟨a, b, vs, us, rfl, .inr ⟨SqT.of h3, SqT.of h5, post1.here R1 (walks_zipT h3' h5' h4 h6)⟩⟩
  · exact post1.elim
/-! ## for -/
def forL (t : DTg) (body : DS) : List D → DS
  | [], δ, s => .nx δ s
  | d :: r, δ, s => match t d δ with
    | none => .stuck
    | some δ1 => match body δ1 s with
      | .nx δ2 s2 => forL t body r δ2 s2
      | .ct δ2 s2 => forL t body r δ2 s2
      | .bk δ2 s2 => .nx δ2 s2
      | o => o
def sFor (it : DIt) (t : DTg) (body : DS) : DS := fun δ s => (it δ s).out δ fun ds s1 => forL t body ds δ s1
theorem drop_get {α : Type} {xs : List α} {i : Nat} {x : α} (h : xs[i]? = some x) : xs.drop i = x :: xs.drop (i + 1) := by
  have hi := (List.getElem?_eq_some_iff.mp h).1
  have e := (List.getElem?_eq_some_iff.mp h).2
  rw [List.drop_eq_getElem_cons hi, e]
/-- the item has come: the heap goes on, the item is at hand -/
theorem item_ok {P : Hp} {ι0 ι : List Addr} {F0 F : Hp} {s : Sto} {H H2 : Hp} {d : D} {x : V} (g : Grow F0 ι0 F ι) (R : RelH T P ι F s H) (y : (H2 = H ∧ Rp T F0 ι0 d x) ∨ ∃ p vs xs, x = .ref p ∧ H p = none ∧ H2 = upd H p (.tup vs) ∧ d = .tup xs ∧ Rps T F0 ι0 xs vs) :
    ∃ F', Grow F ι F' ι ∧ RelH T P ι F' s H2 ∧ Rp T F' ι d x := by
  rcases y with ⟨e, r⟩ | ⟨p, vs, xs, e1, e2, e3, e4, e5⟩
  · subst e
    exact ⟨F, Grow.refl _ _, R, r.mono g⟩
  · subst e1 e3 e4
    refine ⟨upd F p (.tup vs), grow_new (R.freeF e2) _, R.new e2 _, ?_⟩
    unfold Rp
    exact ⟨p, vs, rfl, upd_same, e5.mono (g.trans (grow_new (R.freeF e2) _))⟩
theorem den_for {W : WX} {wi : TI} {f : DIt} {g : TG} {ws : List Nat} {t : DTg} {tb : TS} {body : DS} (hi : DenI T W wi f) (hg : DenT T ws g t) (hb : DenS T W tb body) : DenS T W (tFor wi g tb) (sFor f t body) := fun En σ H P ι F δ s R E post => by
  show wi σ H _
  refine dens_then hi R E post fun ds J H1 ι1 F1 s1 g1 R1 E1 w post1 => ?_
  refine for_it w (fun i σ' H' => ∃ ι' F' δ' s', Grow F1 ι1 F' ι' ∧ RelH T P ι' F' s' H' ∧ REnv T F' ι' δ' σ' ∧ PostS T P En W F' ι' (forL t body (ds.drop i) δ' s')) ⟨ι1, F1, δ, s1, Grow.refl _ _, R1, E1, by simpa using post1⟩ ?_ ?_ ?_
  · rintro i σ' H' _ ⟨ι', F', δ', s', g', R', E', _⟩
    exact fun a o h => R'.sub _ _ (g'.1 _ _ h)
  · rintro i x σ' H' H2 hi ⟨ι', F', δ', s', g', R', E', post'⟩ ⟨d, hd, y⟩
    obtain ⟨F2, g2, R2, r2⟩ := item_ok g' R' y
    rw [drop_get hd] at post'
    unfold forL at post'
    cases q : t d δ' with
    | none => rw [q] at post'; exact post'.elim
    | some δ1 =>
      rw [q] at post'
      dsimp only at post'
      refine hg _ _ _ _ _ _ _ _ _ _ _ R2 (E'.mono g2) r2 q fun σ2 E2 _ => ?_
      refine hb _ _ _ _ _ _ _ _ R2 E2 ?_
      cases qb : body δ1 s' with
      | nx δ2 s2 =>
        rw [qb] at post'
        exact fun σ3 H3 ι3 F3 g3 R3 E3 => ⟨ι3, F3, δ2, s2, (g'.trans g2).trans g3, R3, E3, post'.mono (g2.trans g3)⟩
      | ct δ2 s2 =>
        rw [qb] at post'
        exact fun σ3 H3 ι3 F3 g3 R3 E3 => ⟨ι3, F3, δ2, s2, (g'.trans g2).trans g3, R3, E3, post'.mono (g2.trans g3)⟩
      | bk δ2 s2 =>
        rw [qb] at post'
        exact post'.mono g2
      | rt d2 s2 =>
        rw [qb] at post'
        exact post'.mono g2
      | ex c δ2 s2 =>
        rw [qb] at post'
        exact post'.mono g2
      | stuck => rw [qb] at post'; exact post'.elim
  · rintro σ' H' ⟨ι', F', δ', s', g', R', E', post'⟩
    rw [List.drop_length] at post'
    exact post' σ' H' ι' F' (Grow.refl _ _) R' E'
theorem s_for {tg iter : Expr} {body : List Stmt} {pos : Pos} {f : DIt} {ws : List Nat} {t : DTg} {g : DS} (hi : PDi T X tg iter f) (hg : PDg T X tg ws t) (hb : PDb T X body g) (hc : X.calm = true := by rfl) (hs : ∀ x, foldedSetIterable iter X.env x = pure x := by intro _; rfl) : PDs T X (.For tg iter body [] pos) (sFor f t g) := fun pn xe W tk ow => by
  obtain ⟨wi, p1, d1⟩ := hi pn xe W tk
  obtain ⟨g1, p2, d2⟩ := hg pn xe
  obtain ⟨tb, p3, d3⟩ := hb pn xe W tk ow
  exact ⟨_, ps_for (X := X.tr pn xe) ow hc p1 p2 p3 hs, den_for d1 d2 d3⟩
/-! ## while, so many turns at the most -/
def whL (c : DT) (body : DS) : Nat → DS
  | 0, _, _ => .stuck
  | n + 1, δ, s => (c δ s).out δ fun b s1 => match b with
    | false => .nx δ s1
    | true => match body δ s1 with
      | .nx δ2 s2 => whL c body n δ2 s2
      | .ct δ2 s2 => whL c body n δ2 s2
      | .bk δ2 s2 => .nx δ2 s2
      | o => o
def sWh (n : Nat) (c : DT) (body : DS) : DS := whL c body n
theorem den_while {W : WX} {tc : TT} {c : DT} {tb : TS} {body : DS} (n : Nat) (hc : DenG T eqR W tc c) (hb : DenS T W tb body) : DenS T W (tWhile tc tb) (sWh n c body) := fun En σ H P ι F δ s R E post => by
  refine ⟨fun m σ' H' => ∃ ι' F' δ' s', RelH T P ι' F' s' H' ∧ REnv T F' ι' δ' σ' ∧ PostS T P En W F' ι' (whL c body m δ' s'), ⟨n, ι, F, δ, s, R, E, post⟩, ?_⟩
  rintro m σ' H' ⟨ι', F', δ', s', R', E', post'⟩
  cases m with
  | zero => exact post'.elim
  | succ m =>
    unfold whL at post'
    refine dens_then hc R' E' post' fun b b' H1 ι1 F1 s1 g1 R1 E1 eb post1 => ?_
    cases eb
    cases b with
    | false =>
      rw [if_neg Bool.false_ne_true]
      exact post1 _ _ _ _ (Grow.refl _ _) R1 E1
    | true =>
      rw [if_pos rfl]
      refine ⟨fun σ2 H2 => ∃ ι2 F2 δ2 s2, RelH T P ι2 F2 s2 H2 ∧ REnv T F2 ι2 δ2 σ2 ∧ PostS T P En W F2 ι2 (whL c body m δ2 s2), fun σ2 H2 z => ⟨m, Nat.lt_succ_self _, z⟩, ?_⟩
      refine hb _ _ _ _ _ _ _ _ R1 E1 ?_
      dsimp only at post1
      cases qb : body δ' s1 with
      | nx δ2 s2 =>
        rw [qb] at post1
        exact fun σ3 H3 ι3 F3 g3 R3 E3 => ⟨ι3, F3, δ2, s2, R3, E3, post1.mono g3⟩
      | ct δ2 s2 =>
        rw [qb] at post1
        exact fun σ3 H3 ι3 F3 g3 R3 E3 => ⟨ι3, F3, δ2, s2, R3, E3, post1.mono g3⟩
      | bk δ2 s2 => rw [qb] at post1; exact post1
      | rt d2 s2 => rw [qb] at post1; exact post1
      | ex c δ2 s2 => rw [qb] at post1; exact post1
      | stuck => rw [qb] at post1; exact post1.elim
theorem s_while {c : Expr} {body : List Stmt} {pos : Pos} {fc : DT} {g : DS} (n : Nat) (hc : PDt T X c fc) (hb : PDb T X body g) : PDs T X (.While c body [] pos) (sWh n fc g) := fun pn xe W tk ow => by
  obtain ⟨t0, p0, d0⟩ := hc pn xe W tk
  obtain ⟨t1, p1, d1⟩ := hb pn xe W tk ow
  exact ⟨_, ps_while (X := X.tr pn xe) ow p0 p1, den_while n d0 d1⟩
end
end Mp
/-! # MpE -/
namespace Mp
open PySem PySem.Spec L2

/-! ## canonical readings: one reading for all contexts -/
def canE {α β : Type} (T : Tb) (Rl : Hp → List Addr → α → β → Prop) (W : WX) (f : Env → Sto → Res α) : L2.St → Hp → (β → Hp → Prop) → Prop := fun σ H Q =>
  ∃ P ι F δ s, RelH T P ι F s H ∧ REnv T F ι δ σ ∧ Post T P Rl Q (fun c H' => W (.ref (T.ca c)) none σ H') F ι (f δ s)
def canT (T : Tb) (ws : List Nat) (f : DTg) : TG := fun v σ H Q => ∃ P ι F δ δ' s d, RelH T P ι F s H ∧ REnv T F ι δ σ ∧ Rp T F ι d v ∧ f d δ = some δ' ∧ ∀ σ', REnv T F ι δ' σ' → Off ws σ σ' → Q σ' H
section
variable {T : Tb} {X : Cx}
theorem PE.weak {e : Expr} {t t' : TE} (h : PE X e t) (k : ∀ σ H Q, t' σ H Q → t σ H Q) : PE X e t' := ⟨fun pins s σ H Q I q => h.run pins s σ H Q I (k _ _ _ q)⟩
theorem PT.weak {e : Expr} {t t' : TT} (h : PT X e t) (k : ∀ σ H Q, t' σ H Q → t σ H Q) : PT X e t' := ⟨fun pins s σ H Q I q => h.run pins s σ H Q I (k _ _ _ q)⟩
theorem PG.weak {e : Expr} {t t' : TG} (h : PG X e t) (k : ∀ v σ H Q, t' v σ H Q → t v σ H Q) : PG X e t' := ⟨fun pins s σ H v u Q I r q => h.run pins s σ H v u Q I r (k _ _ _ _ q)⟩
theorem DenG.can {α β : Type} {Rl : Hp → List Addr → α → β → Prop} {W : WX} {t : L2.St → Hp → (β → Hp → Prop) → Prop} {f : Env → Sto → Res α} (d : DenG T Rl W t f) {σ : L2.St} {H : Hp} {Q : β → Hp → Prop} (h : canE T Rl W f σ H Q) : t σ H Q := by
  obtain ⟨P, ι, F, δ, s, R, E, post⟩ := h
  exact d _ _ _ _ _ _ _ _ R E post
theorem DenT.can {ws : List Nat} {t : TG} {f : DTg} (d : DenT T ws t f) {v : V} {σ : L2.St} {H : Hp} {Q : L2.St → Hp → Prop} (h : canT T ws f v σ H Q) : t v σ H Q := by
  obtain ⟨P, ι, F, δ, δ', s, x, R, E, r, e, k⟩ := h
  exact d _ _ _ _ _ _ _ _ _ _ _ R E r e k
/-! ## list comprehensions -/
/-- a clause's tests -/
def PDts (T : Tb) (X : Cx) (ifs : List Expr) (f : DT) : Prop := ∃ t, PTs X ifs t ∧ DenG T eqR (fun _ _ _ _ => False) t f
def cYes : DT := fun _ s => .ok true s
def W0 : WX := fun _ _ _ _ => False
theorem ts_nil : PDts T X [] cYes := ⟨_, pts_nil, fun _ _ _ _ _ _ _ _ R _ post => post.here R rfl⟩
theorem ts_one {c : Expr} {f : DT} (h : PDt T X c f) : PDts T X [c] f := by
  obtain ⟨t, p, d⟩ := h X.pn X.xe (fun _ _ _ _ => False) takes0
  exact ⟨t, pts_one p, d⟩
theorem PTs.weak {e : List Expr} {t t' : TT} (h : PTs X e t) (k : ∀ σ H Q, t' σ H Q → t σ H Q) : PTs X e t' := ⟨fun pins s σ H Q I q => h.run pins s σ H Q I (k _ _ _ q)⟩
def wipeE (δ : Env) : List Nat → Env
  | [] => δ
  | v :: vs => (wipeE δ vs).set v none
theorem REnv.wipe {F : Hp} {ι : List Addr} {δ : Env} {σ : L2.St} (E : REnv T F ι δ σ) : ∀ vs : List Nat, REnv T F ι (wipeE δ vs) (L2.wipe σ vs)
  | [] => E
  | v :: vs => (E.wipe vs).unset v
def lcL (t : DTg) (c : DT) (e : DE) (δ : Env) : List D → List D → Sto → Res D
  | [], acc, s => .ok (.lst acc) s
  | d :: r, acc, s => match t d δ with
    | none => .stuck
    | some δ1 => match c δ1 s with
      | .ok true s2 => match e δ1 s2 with
        | .ok y s3 => if acc.length < lim then lcL t c e δ r (acc ++ [y]) s3 else .stuck
        | _ => .stuck
      | .ok false s2 => lcL t c e δ r acc s2
      | _ => .stuck
def dLc (it : DIt) (t : DTg) (c : DT) (e : DE) (vs : List Nat) : DE := fun δ s => (it δ s).bind fun ds s1 => lcL t c e (wipeE δ vs) ds [] s1
abbrev Blk (X : Cx) (scope : Scope) (s : Shared) (H : Hp) (C : Addr) (cl : List (Str × Addr)) (fp : List Addr) : Cx := X.blk s H scope (compEnvC scope cl C X.env) fp
theorem den_lc {W : WX} {wi : TI} {it : DIt} {ws vs : List Nat} {t : DTg} {c : DT} {e : DE} (hi : DenI T W wi it) (hs : ∀ i ∈ ws, i ∈ vs) :
    DenG T (Rp T) W (tLc wi (canT T ws t) (canE T eqR W0 c) (canE T (Rp T) W0 e) vs) (dLc it t c e vs) := fun σ H P ι F δ s Q R E post => by
  show wi σ H _
  refine den_then hi R E post fun ds J H1 ι1 F1 s1 g1 R1 E1 w post1 => fun L hL => ?_
  have hPL : P L = none := R1.freeP hL
  refine lc_it w (fun i H' => ∃ ι' F' s' acc vacc, Grow F1 ι1 F' ι' ∧ RelH T (upd P L (.lst vacc)) ι' F' s' H' ∧ Rps T F' ι' acc vacc ∧
      Post T P (Rp T) Q (fun c H' => W (.ref (T.ca c)) none σ H') F' ι' (lcL t c e (wipeE δ vs) (ds.drop i) acc s'))
    ⟨ι1, F1, s1, [], [], Grow.refl _ _, R1.newP hL _, .nil, by simpa using post1⟩ ?_ ?_ ?_
  · rintro i H' _ ⟨ι', F', s', acc, vacc, g', R', _, _⟩
    exact fun a o h => R'.sub _ _ (g'.1 _ _ h)
  · rintro i x H' H2 hi' ⟨ι', F', s', acc, vacc, g', R', ra, post'⟩ ⟨d, hd, y⟩
    obtain ⟨F2, g2, R2, r2⟩ := item_ok g' R' y
    rw [drop_get hd] at post'
    unfold lcL at post'
    have Ew : REnv T F2 ι' (wipeE δ vs) (L2.wipe σ vs) := ((E1.mono g').mono g2).wipe vs
    cases q : t d (wipeE δ vs) with
    | none => rw [q] at post'; exact post'.elim
    | some δ1 =>
      rw [q] at post'
      dsimp only at post'
      refine ⟨_, ι', F2, _, δ1, s', d, R2, Ew, r2, q, fun σ2 E2 o2 => ⟨o2.wipe hs |>.trans ?_, ?_⟩⟩
      · refine List.ext_getElem? fun j => ?_
        rw [wipe_at, wipe_at, wipe_length]
        by_cases c : j ∈ vs ∧ j < σ.length
        · rw [if_pos c, if_pos c]
        · rw [if_neg c, if_neg c]
      · refine ⟨_, ι', F2, δ1, s', R2, E2, ?_⟩
        cases qc : c δ1 s' with
        | stuck => rw [qc] at post'; exact post'.elim
        | exc k s2 => rw [qc] at post'; exact post'.elim
        | ok b s2 =>
          rw [qc] at post'
          intro b' H3 ι3 F3 g3 R3 eb
          cases eb
          cases b with
          | false =>
            rw [if_neg Bool.false_ne_true]
            exact ⟨ι3, F3, s2, acc, vacc, (g'.trans g2).trans g3, R3, ra.mono (g2.trans g3), post'.mono (g2.trans g3)⟩
          | true =>
            rw [if_pos rfl]
            refine ⟨_, ι3, F3, δ1, s2, R3, E2.mono g3, ?_⟩
            dsimp only at post'
            cases qe : e δ1 s2 with
            | stuck => rw [qe] at post'; exact post'.elim
            | exc k s3 => rw [qe] at post'; exact post'.elim
            | ok z s3 =>
              rw [qe] at post'
              intro v H4 ι4 F4 g4 R4 rv
              dsimp only at post'
              have ra' := ra.mono ((g2.trans g3).trans g4)
              split at post'
              · rename_i hl
                refine ⟨vacc, R4.pro _ _ upd_same, by rw [← ra.len]; exact lim_lt (Nat.le_of_lt hl), ι4, F4, s3, acc ++ [z], vacc ++ [v], ((g'.trans g2).trans g3).trans g4, ?_, ra'.app (.cons rv .nil), post'.mono ((g2.trans g3).trans g4)⟩
                have := R4.setP (p := L) upd_same (.lst (vacc ++ [v]))
                rw [upd_upd] at this
                exact this
              · exact post'.elim
  · rintro H' ⟨ι', F', s', acc, vacc, g', R', ra, post'⟩
    rw [List.drop_length] at post'
    have R2 := R'.thaw hPL
    have gr : Grow F' ι' (upd F' L (.lst vacc)) ι' := grow_new (R'.dis L _ upd_same) _
    refine post' (.ref L) H' ι' _ gr R2 ?_
    unfold Rp
    exact ⟨L, vacc, rfl, upd_same, ra.mono gr⟩
theorem d_lc {elt tg iter : Expr} {ifs : List Expr} {scope : Scope} {own : List (Str × Nat)} {pos : Pos} {it : DIt} {ws : List Nat} {t : DTg} {c : DT} {e : DE} (hN : X.N.Nodup) (hi : PDi T X tg iter it) (ok : BlkOk X.N X.env.scope scope own)
    (hg : ∀ (s : Shared) (H : Hp) (C : Addr) (cl : List (Str × Addr)) (fp : List Addr), PDg T (Blk X scope s H C cl fp) tg ws t) (ht : ∀ (s : Shared) (H : Hp) (C : Addr) (cl : List (Str × Addr)) (fp : List Addr), PDts T (Blk X scope s H C cl fp) ifs c)
    (he : ∀ (s : Shared) (H : Hp) (C : Addr) (cl : List (Str × Addr)) (fp : List Addr), PDe T (Blk X scope s H C cl fp) elt e) (hs : ∀ i ∈ ws, i ∈ own.map (·.2) := by decide) (hf : ∀ x, foldedSetIterable iter X.env x = pure x := by intro _; rfl) (hc : X.calm = true := by rfl) :
    PDe T X (.ListComp elt [⟨tg, iter, ifs, 0⟩] scope pos) (dLc it t c e (own.map (·.2))) := fun pn xe W tk => by
  obtain ⟨wi, p1, d1⟩ := hi pn xe W tk
  refine ⟨_, pe_lc (X := X.tr pn xe) (own := own) hc hN p1 ok (g := canT T ws t) (tt := canE T eqR W0 c) (te := canE T (Rp T) W0 e) (fun s H C cl fp => ?_) (fun s H C cl fp => ?_) (fun s H C cl fp => ?_) hf, den_lc d1 hs⟩
  · obtain ⟨g, p, d⟩ := hg s H C cl fp [] (fun _ _ => False)
    exact PG.weak p fun v σ H Q q => d.can q
  · obtain ⟨g, p, d⟩ := ht s H C cl fp
    exact PTs.weak p fun σ H Q q => d.can q
  · obtain ⟨g, p, d⟩ := he s H C cl fp [] (fun _ _ => False) W0 takes0
    exact PE.weak p fun σ H Q q => d.can q
theorem s_setLc {elt tg iter : Expr} {ifs : List Expr} {scope : Scope} {own : List (Str × Nat)} {pos spos py : Pos} {y : Str} {it : DIt} {ws : List Nat} {t : DTg} {c : DT} {e : DE} (i : Nat) (hN : X.N.Nodup) (hi : PDi T X tg iter it) (ok : BlkOk X.N X.env.scope scope own)
    (hg : ∀ (s : Shared) (H : Hp) (C : Addr) (cl : List (Str × Addr)) (fp : List Addr), PDg T (Blk X scope s H C cl fp) tg ws t) (ht : ∀ (s : Shared) (H : Hp) (C : Addr) (cl : List (Str × Addr)) (fp : List Addr), PDts T (Blk X scope s H C cl fp) ifs c)
    (he : ∀ (s : Shared) (H : Hp) (C : Addr) (cl : List (Str × Addr)) (fp : List Addr), PDe T (Blk X scope s H C cl fp) elt e) (hsw : swapsWith (.ListComp elt [⟨tg, iter, ifs, 0⟩] scope pos) (some (.Name y py)) spos.line X.env = pure true)
    (hy : X.N[i]? = some y := by rfl) (hyl : X.env.scope.names.lookup y = some .local := by rfl) (hs : ∀ i ∈ ws, i ∈ own.map (·.2) := by decide) (hf : ∀ x, foldedSetIterable iter X.env x = pure x := by intro _; rfl) (hc : X.calm = true := by rfl) :
    PDs T X (.Assign [.Name y py] (.ListComp elt [⟨tg, iter, ifs, 0⟩] scope pos) spos) (sSet i (dLc it t c e (own.map (·.2)))) := fun pn xe W tk _ => by
  obtain ⟨wi, p1, d1⟩ := hi pn xe W tk
  refine ⟨_, ps_setLc (X := X.tr pn xe) (i := i) (own := own) hc hN hy hyl hsw p1 ok (g := canT T ws t) (tt := canE T eqR W0 c) (te := canE T (Rp T) W0 e) (fun s H C cl fp => ?_) (fun s H C cl fp => ?_) (fun s H C cl fp => ?_) hf, fun En σ H P ι F δ s R E post => ?_⟩
  · obtain ⟨g, p, d⟩ := hg s H C cl fp [] (fun _ _ => False)
    exact PG.weak p fun v σ H Q q => d.can q
  · obtain ⟨g, p, d⟩ := ht s H C cl fp
    exact PTs.weak p fun σ H Q q => d.can q
  · obtain ⟨g, p, d⟩ := he s H C cl fp [] (fun _ _ => False) W0 takes0
    exact PE.weak p fun σ H Q q => d.can q
  · have dl : DenG T (Rp T) W _ _ := den_lc (T := T) (c := c) (e := e) (t := t) d1 hs
    show tLc wi (canT T ws t) (canE T eqR W0 c) (canE T (Rp T) W0 e) (own.map (·.2)) σ H _
    refine dens_then (t := tLc wi (canT T ws t) (canE T eqR W0 c) (canE T (Rp T) W0 e) (own.map (·.2))) dl R E post fun x v H1 ι1 F1 s1 g R1 E1 r1 post1 => ?_
    exact post1 _ H1 ι1 F1 (Grow.refl _ _) R1 (E1.set r1 i)
end

/-! ## functions -/
mutual
def below (n : Nat) : D → Bool
  | .loc m => decide (m < n)
  | .tup xs => belows n xs
  | .lst xs => belows n xs
  | .dct _ xs => belows n xs
  | .obj _ _ xs => belows n xs
  | _ => true
def belows (n : Nat) : List D → Bool
  | [] => true
  | x :: xs => below n x && belows n xs
end
def Cell.below (n : Nat) : Cell → Bool
  | .dead => true
  | .lst xs => belows n xs
  | .dct _ xs => belows n xs
  | .obj _ _ xs => belows n xs
/-- what a call leaves: its own cells go -/
def cut (n : Nat) (d : D) (s : Sto) : Res D := if s.length = n then .ok d s else if (decide (n ≤ s.length) && (below n d && (s.take n).all (Cell.below n))) = true then .ok d (s.take n) else .stuck
def cutX (n : Nat) (c : Nat) (s : Sto) : Res D := if s.length = n then .exc c s else if (decide (n ≤ s.length) && (s.take n).all (Cell.below n)) = true then .exc c (s.take n) else .stuck
section
variable {T : Tb}
mutual
theorem Rp.take {F : Hp} {ι : List Addr} {n : Nat} : ∀ {d : D} {v : V}, Rp T F ι d v → below n d = true → Rp T F (ι.take n) d v
  | .non, _, h, _ => by unfold Rp at h ⊢; exact h
  | .bl _, _, h, _ => by unfold Rp at h ⊢; exact h
  | .int _, _, h, _ => by unfold Rp at h ⊢; exact h
  | .str _, _, h, _ => by unfold Rp at h ⊢; exact h
  | .tup xs, v, h, b => by
    unfold Rp at h ⊢
    obtain ⟨a, vs, e, q, r⟩ := h
    exact ⟨a, vs, e, q, Rps.takeI r b⟩
  | .lst xs, v, h, b => by
    unfold Rp at h ⊢
    obtain ⟨a, vs, e, q, r⟩ := h
    exact ⟨a, vs, e, q, Rps.takeI r b⟩
  | .scr ns, v, h, _ => by unfold Rp at h ⊢; exact h
  | .dct ks xs, v, h, b => by
    unfold Rp at h ⊢
    obtain ⟨a, kvs, e, q, k, r⟩ := h
    exact ⟨a, kvs, e, q, k, Rps.takeI r b⟩
  | .obj c ns xs, v, h, b => by
    unfold Rp at h ⊢
    obtain ⟨a, dx, fs, e, q, k, r⟩ := h
    exact ⟨a, dx, fs, e, q, k, Rps.takeI r b⟩
  | .loc m, v, h, b => by
    unfold Rp at h ⊢
    obtain ⟨a, q, e⟩ := h
    have hm : m < n := of_decide_eq_true b
    exact ⟨a, by rw [List.getElem?_take_of_lt hm]; exact q, e⟩
  | .exc c, v, h, _ => by unfold Rp at h ⊢; exact h
  | .cls _, _, h, _ => by unfold Rp at h ⊢; exact h
  | .ty _, _, h, _ => by unfold Rp at h ⊢; exact h
theorem Rps.takeI {F : Hp} {ι : List Addr} {n : Nat} : ∀ {ds : List D} {vs : List V}, Rps T F ι ds vs → belows n ds = true → Rps T F (ι.take n) ds vs
  | [], _, h, _ => by unfold Rps at h ⊢; exact h
  | x :: xs, vs, h, b => by
    unfold Rps at h ⊢
    obtain ⟨v, r, e, p, q⟩ := h
    have b' : (below n x && belows n xs) = true := b
    rw [Bool.and_eq_true] at b'
    exact ⟨v, r, e, Rp.take p b'.1, Rps.takeI q b'.2⟩
end
theorem RelH.cut {P : Hp} {ι : List Addr} {F : Hp} {s : Sto} {H : Hp} {n : Nat} (R : RelH T P ι F s H) (hb : (s.take n).all (Cell.below n) = true) : RelH T P (ι.take n) F (s.take n) H := by
  have lt : ∀ {m : Nat} {c : Cell}, (s.take n)[m]? = some c → m < n ∧ s[m]? = some c := fun {m c} h => by
    have h1 := (List.getElem?_eq_some_iff.mp h).1
    rw [List.length_take] at h1
    have h2 : m < n := by omega
    exact ⟨h2, by rw [List.getElem?_take_of_lt h2] at h; exact h⟩
  have ltI : ∀ {m : Nat} {a : Addr}, (ι.take n)[m]? = some a → ι[m]? = some a := fun {m a} h => by
    have h1 := (List.getElem?_eq_some_iff.mp h).1
    rw [List.length_take] at h1
    rw [List.getElem?_take_of_lt (by omega)] at h
    exact h
  refine ⟨R.sub, R.pro, R.dis, by rw [List.length_take, List.length_take, R.len], fun m c a h1 h2 => ?_, fun m c a h1 l h2 => R.npr m c a (lt h1).2 l (ltI h2), fun m k c c' a h1 h2 l1 l2 h3 h4 => R.nod m k c c' a (lt h1).2 (lt h2).2 l1 l2 (ltI h3) (ltI h4)⟩
  have hc := R.cell m c a (lt h1).2 (ltI h2)
  have hbc : c.below n = true := List.all_eq_true.mp hb c (List.mem_of_getElem? h1)
  cases c with
  | dead => trivial
  | lst xs =>
    obtain ⟨e1, vs, e2, e3⟩ := hc
    exact ⟨e1, vs, e2, e3.takeI hbc⟩
  | dct ks xs =>
    obtain ⟨e1, vs, e2, e3, e4⟩ := hc
    exact ⟨e1, vs, e2, e3, e4.takeI hbc⟩
  | obj k ns xs =>
    obtain ⟨e1, dx, vs, e2, e3, e4⟩ := hc
    exact ⟨e1, dx, vs, e2, e3, e4.takeI hbc⟩
/-- the promise of a def that does what φ tells -/
def spD (T : Tb) (n : Nat) (φ : List D → Sto → Res D) : Sp := fun vs H Q E => vs.length = n ∧ ∃ P ι F s ds, RelH T P ι F s H ∧ Rps T F ι ds vs ∧ Post T P (Rp T) Q (fun c H' => E (.ref (T.ca c)) none H') F ι (φ ds s)
def finO (n : Nat) : Out → Res D
  | .rt d s => cut n d s
  | .nx _ s => cut n .non s
  | .ex c _ s => cutX n c s
  | _ => .stuck
/-- a def: N names, n of them parameters -/
def mkF (N n : Nat) (g : DS) : List D → Sto → Res D := fun ds s => if ds.length = n then finO s.length (g (ds.map some ++ List.replicate (N - n) none) s) else .stuck
theorem takeG {F F' : Hp} {ι ι' : List Addr} {n : Nat} (g : Grow F ι F' ι') (h : ι.length = n) : Grow F ι F' (ι'.take n) := by
  obtain ⟨g1, m, rfl⟩ := g
  refine ⟨g1, [], ?_⟩
  rw [List.append_nil, List.take_append_of_le_length (by omega), List.take_of_length_le (by omega)]
theorem fin_ok {P : Hp} {ι : List Addr} {F : Hp} {s : Sto} {H : Hp} {Q : VK} {E : XK} {W : WX} {o : Out} (hW : ∀ c d σ H, E c d H → W c d σ H) (R : RelH T P ι F s H) (post : Post T P (Rp T) Q (fun c H' => E (.ref (T.ca c)) none H') F ι (finO s.length o)) :
    PostS T P { nx := fun _ H' => Q .non H', rt := Q } W F ι o := by
  have one : ∀ d s', Post T P (Rp T) Q (fun c H' => E (.ref (T.ca c)) none H') F ι (cut s.length d s') → ∀ v H' ι' F', Grow F ι F' ι' → RelH T P ι' F' s' H' → Rp T F' ι' d v → Q v H' := by
    intro d s' p v H' ι' F' g R' r
    unfold Mp.cut at p
    split at p
    · exact p v H' ι' F' g R' r
    · split at p
      · rename_i hb
        simp only [Bool.and_eq_true, decide_eq_true_eq] at hb
        exact p v H' _ F' (takeG g R.len) (R'.cut hb.2.2) (r.take hb.2.1)
      · exact p.elim
  cases o with
  | rt d s' => exact one d s' post
  | nx δ s' => exact fun σ' H' ι' F' g R' _ => one .non s' post .non H' ι' F' g R' (by unfold Rp; rfl)
  | bk δ s' => exact post.elim
  | ct δ s' => exact post.elim
  | stuck => exact post.elim
  | ex c δ s' =>
    intro σ' H' ι' F' g R' _
    refine hW _ _ _ _ ?_
    have post' : Post T P (Rp T) Q (fun c H' => E (.ref (T.ca c)) none H') F ι (cutX s.length c s') := post
    unfold cutX at post'
    split at post'
    · exact post' H' ι' F' g R'
    · split at post'
      · rename_i hb
        simp only [Bool.and_eq_true, decide_eq_true_eq] at hb
        exact post' H' _ F' (takeG g R.len) (R'.cut hb.2)
      · exact post'.elim
theorem start_env {F : Hp} {ι : List Addr} {N : List Str} {ds : List D} {vs : List V} {n : Nat} (r : Rps T F ι ds vs) (hn : ds.length = n) : REnv T F ι (ds.map some ++ List.replicate (N.length - n) none) (L2.start N vs) := by
  have hl := r.len
  unfold L2.start
  refine ⟨by simp [hl]; omega, fun i d h => ?_⟩
  by_cases hi : i < ds.length
  · rw [List.getElem?_append_left (by simpa using hi), List.getElem?_map] at h
    cases e : ds[i]? with
    | none => rw [e] at h; cases h
    | some d' =>
      rw [e] at h
      cases h
      obtain ⟨v, h1, h2⟩ := r.get e
      refine ⟨v, ?_, h2⟩
      rw [List.getElem?_append_left (by simp; omega), List.getElem?_map, h1]
      rfl
  · rw [List.getElem?_append_right (by simpa using hi), List.getElem?_replicate] at h
    split at h <;> cases h
section
variable {P : Program} {w : World} {mg : Str → Option Value} {base : Heap}
theorem fn_d {x qual : Str} {params : Arguments} {body : List Stmt} {scope : Scope} {dvs : List V} {kws : List (Str × V)} {f : Addr} {fd : FuncData} {N ps : List Str} {k : Nat} {g : DS} (F : FunD T.K x qual params body scope dvs kws f fd) (Sc : FnScope N ps scope)
    (h : ∀ (cdv : Value) (A : Around) (outer : List PySem.Env) (s : Shared) (H : Hp) (E : XK), Room k (A.deeper (PyProof.Rows.envOfC qual scope s.heap.objs.size f cdv)) → PDb T (cxOf (L2.CX P w) P w T.K mg base N qual scope f cdv A outer s H E) body g) :
    FnOk P w T.K mg base (L2.CX P w) (k + 1) f fd ps (spD T ps.length (mkF N.length ps.length g)) := by
  refine F.ok Sc (fun vs H Q E h => h.1) fun cdv A outer s H vs Q E hr sp => ?_
  obtain ⟨hl, P0, ι, F0, st, ds, R, r, post⟩ := sp
  have tk : Takes (cxOf (L2.CX P w) P w T.K mg base N qual scope f cdv A outer s H E) (fun cls d _ H => E cls d H) := takes_of rfl rfl rfl rfl
  obtain ⟨t, p, d⟩ := h cdv A outer s H E hr _ _ _ tk (passes_of rfl)
  refine ⟨t, p, ?_⟩
  unfold mkF at post
  split at post
  · rename_i hd
    exact d _ _ _ _ _ _ _ _ R (start_env r hd) (fin_ok (fun _ _ _ _ h => h) R post)
  · exact post.elim
/-- a def that may be called by its name -/
structure Cl (T : Tb) (P : Program) (w : World) (mg : Str → Option Value) (base : Heap) (x : Str) (k n : Nat) (φ : List D → Sto → Res D) : Prop where
  ex : ∃ (f : Addr) (fd : FuncData) (ps : List Str), mg x = some (.ref f) ∧ PySem.W.keepIn T.K (.ref f) = true ∧ Binds T.K fd ps [] ∧ FnOk P w T.K mg base (L2.CX P w) k f fd ps (spD T n φ)
theorem Cl.up {x : Str} {j k n : Nat} {φ : List D → Sto → Res D} (c : Cl T P w mg base x j n φ) (h : j ≤ k) : Cl T P w mg base x k n φ := by
  obtain ⟨f, fd, ps, h1, h2, h3, h4⟩ := c.ex
  exact ⟨f, fd, ps, h1, h2, h3, h4.mono h⟩
end
variable {X : Cx}
def dCall (φ : List D → Sto → Res D) (fa : DA) : DE := fun δ s => (fa δ s).bind fun ds s1 => φ ds s1
theorem d_call {x : Str} {p pos : Pos} {e : Expr} {es : List Expr} {k j n : Nat} {φ : List D → Sto → Res D} {fa : DA} (c : Cl T X.prog X.w X.mg X.base x k n φ) (ha : PDa T X (e :: es) fa) (hr : Room j X.A) (hk : k ≤ j := by decide) (hn : (e :: es).length = n := by rfl) (hg : Gl X x := by rfl) (hK : X.K = T.K := by rfl)
    (hdb : (x == ("__debug__" : Str)) = false := by decide) (he : starEach (e :: es) X.env = (false, eval e X.env) :: starEach es X.env := by rfl) (hpl : (backTo pos (starEach es X.env)).any (·.1) = false := by rfl) :
    PDe T X (.Call (.Name x p) (e :: es) [] pos) (dCall φ fa) := fun pn xe W tk => by
  obtain ⟨t1, p1, d1⟩ := ha pn xe W tk
  obtain ⟨f, fd, ps, h1, h2, h3, h4⟩ := c.ex
  rw [← hK] at h2 h3 h4
  refine ⟨_, pe_callS (X := X.tr pn xe) h4 (hr.mono hk) hg h1 h2 h3 (fun σ => passAt tk σ) p1 hdb he hpl, fun σ H P ι F δ s Q R E post => ?_⟩
  show t1 σ H _
  refine den_then d1 R E post fun ds vs H1 ι1 F1 s1 g R1 E1 r1 post1 => ?_
  exact ⟨r1.2.trans hn, P, ι1, F1, s1, ds, R1, r1.1, post1⟩
end
end Mp
/-! # MpF -/
namespace Mp
open PySem PySem.Spec L2
/-! ## built-ins called by name -/
abbrev DB := List D → Sto → Res D
def dBi (op : DB) (fa : DA) : DE := fun δ s => (fa δ s).bind fun ds s1 => op ds s1
def DenB (T : Tb) (r : List V → Hp → VK → Prop) (op : DB) : Prop := ∀ ds vs H P ι F s Q E, RelH T P ι F s H → Rps T F ι ds vs → Post T P (Rp T) Q E F ι (op ds s) → r vs H Q
section
variable {T : Tb} {X : Cx}
theorem den_bi {W : WX} {r : List V → Hp → VK → Prop} {op : DB} {n : Nat} {t : TA} {fa : DA} (hb : DenB T r op) (d : DenG T (RpsN T n) W t fa) : DenG T (Rp T) W (tCB r t) (dBi op fa) := fun σ H P ι F δ s Q R E post => by
  show t σ H _
  refine den_then d R E post fun ds vs H1 ι1 F1 s1 g R1 E1 r1 post1 => ?_
  exact hb _ _ _ _ _ _ _ _ _ R1 r1.1 post1
theorem d_callB {x : Str} {p pos : Pos} {e : Expr} {es : List Expr} {id : String} {r : List V → Hp → VK → Prop} {op : DB} {fa : DA} (hc : ∀ pn xe, CallR (X.tr pn xe) (.builtin id) r) (hb : DenB T r op) (hm : X.mg x = none) (hv : bootBuiltins x = some (.builtin id)) (ha : PDa T X (e :: es) fa)
    (hg : Gl X x := by rfl) (hn : x ≠ "__name__" := by decide) (hdb : (x == ("__debug__" : Str)) = false := by decide)
    (he : starEach (e :: es) X.env = (false, eval e X.env) :: starEach es X.env := by rfl) (hpl : (backTo pos (starEach es X.env)).any (·.1) = false := by rfl) : PDe T X (.Call (.Name x p) (e :: es) [] pos) (dBi op fa) := fun pn xe W tk => by
  obtain ⟨t1, p1, d1⟩ := ha pn xe W tk
  exact ⟨_, pe_callB (X := X.tr pn xe) (hc pn xe) hg hm hv p1 hn hdb he hpl, den_bi hb d1⟩
theorem d_callT {x : Str} {p pos : Pos} {e : Expr} {es : List Expr} {id : String} {r : List V → Hp → VK → Prop} {op : DB} {fa : DA} (hc : ∀ pn xe, CallR (X.tr pn xe) (.type id) r) (hb : DenB T r op) (hm : X.mg x = none) (hv : bootBuiltins x = some (.type id)) (ha : PDa T X (e :: es) fa)
    (hg : Gl X x := by rfl) (hn : x ≠ "__name__" := by decide) (hdb : (x == ("__debug__" : Str)) = false := by decide)
    (he : starEach (e :: es) X.env = (false, eval e X.env) :: starEach es X.env := by rfl) (hpl : (backTo pos (starEach es X.env)).any (·.1) = false := by rfl) : PDe T X (.Call (.Name x p) (e :: es) [] pos) (dBi op fa) := fun pn xe W tk => by
  obtain ⟨t1, p1, d1⟩ := ha pn xe W tk
  exact ⟨_, pe_callTy (X := X.tr pn xe) (hc pn xe) hg hm hv p1 hn hdb he hpl, den_bi hb d1⟩
/-! ### len -/
def bLen : DB
  | [.str z], s => if z.length ≤ lim then .ok (.int z.length) s else .stuck
  | [x], s => match (lqOf s x).or (tpOf x) with
    | some xs => .ok (.int xs.length) s
    | none => .stuck
  | _, _ => .stuck
def rLen (K : PySem.W.Frag) : List V → Hp → VK → Prop := fun xs H Q => ∃ x n, xs = [x] ∧ LenV K x H n ∧ Q (.int n) H
theorem db_len : DenB T (rLen T.K) bLen := by
  intro ds vs H P ι F s Q E R r post
  unfold bLen at post
  split at post
  · obtain ⟨v, rfl, h1⟩ := rps1 r
    unfold Rp at h1
    subst h1
    split at post
    · rename_i hl
      refine ⟨_, _, rfl, ⟨by rw [S_len]; exact lim_le hl, rfl⟩, ?_⟩
      rw [S_len]
      exact post.here R (by unfold Rp; rfl)
    · exact post.elim
  · obtain ⟨v, rfl, h1⟩ := rps1 r
    split at post
    · rename_i xs h
      obtain ⟨a, us, rfl, h2, h3⟩ := lqtp_of R h1 h
      refine ⟨_, us.length, rfl, ?_, ?_⟩
      · rcases h2 with h2 | h2
        · exact .inl ⟨us, h2, rfl⟩
        · exact .inr ⟨us, h2, rfl⟩
      · rw [← h3.len]
        exact post.here R (by unfold Rp; rfl)
    · exact post.elim
  · exact post.elim
/-! ### any, all of truth values -/
def boolsOf : List D → Option (List Bool)
  | [] => some []
  | .bl b :: r => (boolsOf r).map (b :: ·)
  | _ => none
theorem bools_ok {F : Hp} {ι : List Addr} : ∀ {ds : List D} {vs : List V} {bs : List Bool}, Rps T F ι ds vs → boolsOf ds = some bs → vs = bs.map V.bl
  | [], vs, bs, r, e => by unfold Rps at r; subst r; cases e; rfl
  | d :: ds, vs, bs, r, e => by
    unfold Rps at r
    obtain ⟨v, us, rfl, h1, h2⟩ := r
    cases d with
    | bl b =>
      have e' : (boolsOf ds).map (b :: ·) = some bs := e
      cases q : boolsOf ds with
      | none => rw [q] at e'; cases e'
      | some cs =>
        rw [q] at e'
        cases e'
        unfold Rp at h1
        rw [h1, bools_ok h2 q]
        rfl
    | _ => cases e
def bAnyAll (f : List Bool → Bool) : DB
  | [x], s => match lqOf s x with
    | some xs => match boolsOf xs with
      | some bs => .ok (.bl (f bs)) s
      | none => .stuck
    | none => .stuck
  | _, _ => .stuck
abbrev bAny : DB := bAnyAll (·.any id)
abbrev bAll : DB := bAnyAll (·.all id)
theorem db_any : DenB T (rAny T.K) bAny := by
  intro ds vs H P ι F s Q E R r post
  unfold bAny bAnyAll at post
  split at post
  · obtain ⟨v, rfl, h1⟩ := rps1 r
    split at post
    · rename_i xs h
      split at post
      · rename_i bs hb
        obtain ⟨a, us, rfl, h2, h3⟩ := lq_of R h1 h
        rw [bools_ok h3 hb] at h2
        exact ⟨a, bs, rfl, h2, post.here R (by unfold Rp; rfl)⟩
      · exact post.elim
    · exact post.elim
  · exact post.elim
theorem db_all : DenB T (rAll T.K) bAll := by
  intro ds vs H P ι F s Q E R r post
  unfold bAll bAnyAll at post
  split at post
  · obtain ⟨v, rfl, h1⟩ := rps1 r
    split at post
    · rename_i xs h
      split at post
      · rename_i bs hb
        obtain ⟨a, us, rfl, h2, h3⟩ := lq_of R h1 h
        rw [bools_ok h3 hb] at h2
        exact ⟨a, bs, rfl, h2, post.here R (by unfold Rp; rfl)⟩
      · exact post.elim
    · exact post.elim
  · exact post.elim
/-! ### max, min of two -/
def b2I (g : Int → Int → Int) : DB
  | [.int a, .int b], s => .ok (.int (g a b)) s
  | _, _ => .stuck
abbrev bMax2 : DB := b2I fun i j => if j > i then j else i
abbrev bMin2 : DB := b2I fun i j => if j < i then j else i
theorem db_2I {g : Int → Int → Int} : DenB T (fun xs H Q => ∃ i j, xs = [.int i, .int j] ∧ Q (.int (g i j)) H) (b2I g) := by
  intro ds vs H P ι F s Q E R r post
  unfold b2I at post
  split at post
  · obtain ⟨v, u, rfl, h1, h2⟩ := rps2 r
    unfold Rp at h1 h2
    exact ⟨_, _, by rw [h1, h2], post.here R (by unfold Rp; rfl)⟩
  · exact post.elim
/-! ### isinstance -/
def tyOf (s : Sto) : D → Option String
  | .non => some "NoneType"
  | .bl _ => some "bool"
  | .int _ => some "int"
  | .str _ => some "str"
  | .lst _ => some "list"
  | .tup _ => some "tuple"
  | .loc n => match s[n]? with
    | some (.lst _) => some "list"
    | some (.dct _ _) => some "dict"
    | _ => none
  | .dct _ _ => some "dict"
  | _ => none
theorem ty_ok {P : Hp} {ι : List Addr} {F : Hp} {s : Sto} {H : Hp} (R : RelH T P ι F s H) {d : D} {v : V} {t : String} (r : Rp T F ι d v) (h : tyOf s d = some t) : TyX T.K H v (.type t) := by
  cases d with
  | non => unfold Rp at r; subst r; cases h; exact .base .non
  | bl b => unfold Rp at r; subst r; cases h; exact .base (.bl b)
  | int b => unfold Rp at r; subst r; cases h; exact .base (.int b)
  | str b => unfold Rp at r; subst r; cases h; exact .base (.str _)
  | lst xs => unfold Rp at r; obtain ⟨a, vs, rfl, e, _⟩ := r; cases h; exact .base (.lst (R.sub _ _ e))
  | tup xs => unfold Rp at r; obtain ⟨a, vs, rfl, e, _⟩ := r; cases h; exact .base (.tup (R.sub _ _ e))
  | dct ks xs =>
    unfold Rp at r
    obtain ⟨a, kvs, rfl, e, _⟩ := r
    cases h
    rcases e with e | ⟨o, e⟩
    · exact .base (.dK (R.sub _ _ e))
    · exact .fDict (R.sub _ _ e)
  | loc n =>
    unfold Rp at r
    obtain ⟨a, e1, rfl⟩ := r
    unfold tyOf at h
    dsimp only at h
    cases q : s[n]? with
    | none => rw [q] at h; cases h
    | some c =>
      rw [q] at h
      cases c with
      | lst xs => cases h; obtain ⟨_, vs, e, _⟩ := R.cell n _ a q e1; exact .base (.lst e)
      | dct ks xs => cases h; obtain ⟨_, vs, e, _⟩ := R.cell n _ a q e1; exact .base (.dK e)
      | _ => cases h
  | _ => cases h
def bIsi : DB
  | [x, .ty n], s => match tyOf s x with
    | some t => match kitB t n with
      | some b => .ok (.bl b) s
      | none => .stuck
    | none => .stuck
  | _, _ => .stuck
theorem db_isi : DenB T (rIsi T.K) bIsi := by
  intro ds vs H P ι F s Q E R r post
  unfold bIsi at post
  split at post
  · obtain ⟨v, u, rfl, h1, h2⟩ := rps2 r
    split at post
    · rename_i t ht
      split at post
      · rename_i b hb
        unfold Rp at h2
        subst h2
        exact ⟨v, _, _, _, b, rfl, .ty _, ty_ok R h1 ht, kit_ty hb, post.here R (by unfold Rp; rfl)⟩
      · exact post.elim
    · exact post.elim
  · exact post.elim
end
/-! ## the end of a law -/
theorem law_end {T : Tb} {k : Nat} {φ : List D → Sto → Res D} {H : Hp} {a : Addr} {ns : List Int} (hO : Only H) (hS : SqL T.K H a (ns.map V.int)) (h : φ [.scr ns] [] = .ok (.bl true) []) :
    spD T 1 φ [.ref a] H (fun v _ => v = .bl true) fun _ _ _ => False := by
  have R : RelH T (fun _ => none) [] H [] H := by
    refine ⟨fun _ _ h => h, fun _ _ h => ?_, fun _ _ h => ?_, rfl, fun n c a h => ?_, fun n c a h => ?_, fun n m c c' a h => ?_⟩
    · cases h
    · cases h
    all_goals simp at h
  refine ⟨rfl, fun _ => none, [], H, [], [.scr ns], R, .cons (by unfold Rp; exact ⟨a, rfl, hS⟩) .nil, ?_⟩
  rw [h]
  intro v H' ι' F' g R r
  unfold Rp at r
  exact r
theorem cx_none {P : Program} {w : World} {H : Hp} {s s' : Shared} {e : Value} (h : L2.CX P w [] H s (fun _ _ _ => False) e s') : False := by
  obtain ⟨_, _, _, _, _, _, _, _, _, _, _, _, h⟩ := h
  exact h
theorem law_walks {l : PySem.W.OpenLaw} {k : Nat} {q : Program} {lo : List Str} {XP : (Str → Option Value) → Heap → Prop} {YP : World → Heap → Prop} {d : DefRec} {x : Str} (hm : l.most = some 63) (hdf : d.params.defaults = []) (room : Room k callerA)
    (F : ∀ (w : World) (mg : Str → Option Value) (fa : Addr) (h : Heap), YP w h → h.Ns mainGlobals mg → mg d.name = some (.ref fa) →
      ∃ (K : PySem.W.Frag) (fd : FuncData) (sp : Sp), K.In h ∧ (∀ (s : Shared) (u : Value), BindsTo s fd ⟨[u], []⟩ [(x, u)]) ∧
        (∀ (H : Hp) (a : Addr) (ns : List Int), ns.length ≤ 63 → Only H → SqL K H a (ns.map V.int) → sp [.ref a] H (fun v _ => v = .bl true) fun _ _ _ => False) ∧
        ∀ base : Heap, K.In base → base.Ns mainGlobals mg → FnOk l.prog w K mg base (L2.CX l.prog w) k fa fd [x] sp) :
    PySem.W.WalkO q lo XP YP l.row.toRowW d [] (fun f vs => PySem.call f vs) := by
  refine Att.attach_call hm hdf fun w sA sB mg mb fa o pm cd doc a vs ns G Y ho hd hcd hmg hobj hin hlen hg => ?_
  obtain ⟨K, fd, sp, KX, bi, pr, fn⟩ := F w mg fa _ Y G.T.g hmg
  exact law_call KX G.T.g G.T.b G.T.builtins G.T.nolimit hg hobj hin (Nat.le_trans hlen (by rw [sizeLine_eq]; decide)) room fn bi (fun H hO hS => pr H a ns hlen hO hS) fun H e s' z => cx_none z
end Mp
/-! # MpG -/
namespace Mp
open PySem PySem.Spec L2 PyProof.Rows
/-! ## the head's look, with one more Bool -/
abbrev AlE : Type := He.AlD × Bool
def obsE (fa : List He.Fa) (fn : List He.DefD) (ex : PySem.W.Frag → Bool) (K : PySem.W.Frag) : AlE := (He.obsD fa fn K, ex K)
structure SaysE (fa : List He.Fa) (fn : List He.DefD) (ex : PySem.W.Frag → Bool) (K : PySem.W.Frag) : Prop where
  d : He.SaysD fa fn K
  more : ex K = true
def obsEG (n : Nat) (fa : List He.Fa) (fn : List He.DefD) (ex : PySem.W.Frag → Bool) (g : Addr → Option Obj) : AlE := obsE fa fn ex (He.frG g (He.asD g n))
def hookE (n : Nat) (fa : List He.Fa) (fn : List He.DefD) (ex : PySem.W.Frag → Bool) : PySem.W.Hook where
  α := AlE
  obs := fun s => obsEG n fa fn ex s.heap.get?
  val := fun _ => (He.valD fn, true)
  says := fun _ h => ∃ K : PySem.W.Frag, K.In h ∧ SaysE fa fn ex K
  of := fun _ _ e => ⟨_, He.frG_in, congrArg (fun z : AlE => z.1) e, congrArg (fun z : AlE => z.2) e⟩
  keeps := fun _ _ _ ⟨K, hK, c⟩ k => ⟨K, PySem.W.Frag.In.keeps hK k, c⟩
theorem obsEG_eq {n : Nat} {fa : List He.Fa} {fn : List He.DefD} {ex : PySem.W.Frag → Bool} {g : Addr → Option Obj} {s : Shared} (h : ∀ a, g a = s.heap.get? a) : obsEG n fa fn ex g = (hookE n fa fn ex).obs s := by
  have e : g = s.heap.get? := funext h
  rw [e] <;> rfl
/-! ## the classes of exceptions: par.getD k k is k's parent (k itself where there is none) -/
def ancF (par : List Nat) : Nat → Nat → Nat → Bool
  | 0, k, c => k == c
  | n + 1, k, c => k == c || (par.getD k k != k && ancF par n (par.getD k k) c)
def ancO (par : List Nat) (k c : Nat) : Option Bool := if k < par.length ∧ c < par.length then some (ancF par par.length k c) else none
structure ExT (K : PySem.W.Frag) (ca : Nat → Addr) (par : List Nat) : Prop where
  exm : ∀ k c b, ancO par k c = some b → PySem.W.exmOne K (.ref (ca k)) (.ref (ca c)) = some b
  kit : ∀ k c b, ancO par k c = some b → PySem.W.kitOne K (.ref (ca k)) (.ref (ca c)) = some b
  kiv : ∀ k, k < par.length → PySem.W.kitOne K (.ref (ca k)) (.type "ValueError") = some true
  exc : ∀ k, k < par.length → ExcC K (ca k)
  mkx : ∀ k, k < par.length → PySem.W.excIn K (ca k) He.veBase "ValueError.__new__" = true ∧ PySem.W.keepIn K (.ref (ca k)) = true ∧ PySem.W.subIn K (.ref (ca k)) (.type "BaseException") = some true ∧ PySem.W.typeIn K (.ref (ca k)) = some (.type "type")
def exc1 (K : PySem.W.Frag) (D : Addr) : Bool :=
  decide (PySem.W.findIn K (.ref D) "__getattribute__" = some (some (.builtin "BaseException.__getattribute__"))) && (decide (PySem.W.findIn K (.ref D) "__getattr__" = some none) && (decide (PySem.W.subIn K (.ref D) (.type "BaseException") = some true) && (PySem.W.hasDictIn K D &&
  (decide (PySem.W.findIn K (.ref D) "__class__" = some (some (.builtin "object.__class__"))) && (decide (PySem.W.specialIn K (.builtin "object.__class__") "__get__" = some (some (.builtin "getset_descriptor.__get__"))) && (decide (PySem.W.takesIn K (.builtin "object.__class__") = some true) &&
  (decide (PySem.W.mroIn K D (.type "object") = some true) && (PySem.W.excIn K D He.veBase "ValueError.__new__" && (PySem.W.keepIn K (.ref D) && (decide (PySem.W.typeIn K (.ref D) = some (.type "type")) && decide (PySem.W.kitOne K (.ref D) (.type "ValueError") = some true)))))))))))
def exB (ca : PySem.W.Frag → Nat → Addr) (par : List Nat) (K : PySem.W.Frag) : Bool := (List.range par.length).all fun k => exc1 K (ca K k) && (List.range par.length).all fun c => decide (PySem.W.exmOne K (.ref (ca K k)) (.ref (ca K c)) = some (ancF par par.length k c)) && decide (PySem.W.kitOne K (.ref (ca K k)) (.ref (ca K c)) = some (ancF par par.length k c))
theorem exT_of {ca : PySem.W.Frag → Nat → Addr} {par : List Nat} {K : PySem.W.Frag} (h : exB ca par K = true) : ExT K (ca K) par := by
  unfold exB at h
  rw [List.all_eq_true] at h
  have one : ∀ k, k < par.length → exc1 K (ca K k) = true ∧ ∀ c, c < par.length → PySem.W.exmOne K (.ref (ca K k)) (.ref (ca K c)) = some (ancF par par.length k c) ∧ PySem.W.kitOne K (.ref (ca K k)) (.ref (ca K c)) = some (ancF par par.length k c) := fun k hk => by
    obtain ⟨h1, h2⟩ := He.ba (h k (List.mem_range.mpr hk))
    refine ⟨h1, fun c hc => ?_⟩
    rw [List.all_eq_true] at h2
    obtain ⟨h3, h4⟩ := He.ba (h2 c (List.mem_range.mpr hc))
    exact ⟨of_decide_eq_true h3, of_decide_eq_true h4⟩
  have two : ∀ k c b, ancO par k c = some b → k < par.length ∧ c < par.length ∧ ancF par par.length k c = b := fun k c b e => by
    unfold ancO at e
    split at e
    · rename_i hk
      exact ⟨hk.1, hk.2, Option.some.inj e⟩
    · cases e
  refine ⟨fun k c b e => ?_, fun k c b e => ?_, fun k hk => ?_, fun k hk => ?_, fun k hk => ?_⟩
  · obtain ⟨h1, h2, h3⟩ := two k c b e
    rw [← h3]; exact ((one k h1).2 c h2).1
  · obtain ⟨h1, h2, h3⟩ := two k c b e
    rw [← h3]; exact ((one k h1).2 c h2).2
  all_goals
    have z := (one k hk).1
    unfold exc1 at z
    simp only [Bool.and_eq_true, decide_eq_true_eq] at z
    obtain ⟨z1, z2, z3, z4, z5, z6, z7, z8, z9, z10, z11, z12⟩ := z
    first | exact z12 | exact ⟨z1, z2, z3, z4, z5, z6, z7, z8⟩ | exact ⟨z9, z10, z3, z11⟩
/-! ## raise -/
def sRaise (c : Nat) : DS := fun δ s => .ex c δ s
section
variable {T : Tb} {X : Cx} {par : List Nat}
theorem s_raise {x m : Str} {j : Nat} {p p2 pos pos' : Pos} (c : Nat) (x1 : ExT T.K T.ca par) (gC : X.mg x = some (.ref (T.ca c))) (hc : c < par.length := by decide) (hg : Gl X x := by rfl) (hdb : (x == ("__debug__" : Str)) = false := by decide) (hcalm : X.calm = true := by rfl) (hK : X.K = T.K := by rfl) :
    PDs T X (.Raise (some (.Call (.Name x p) [.Constant (.str m) j p2] [] pos)) none pos') (sRaise c) := fun pn xe W tk ow => by
  obtain ⟨h1, h2, h3, h4⟩ := x1.mkx c hc
  rw [← hK] at h1 h2 h3 h4
  refine ⟨_, ps_raise (X := X.tr pn xe) hcalm tk (pmk_own (X := X.tr pn xe) F.excBase_ValueError h1 gC h2 (raises_own h3 h4) hg hdb), fun En σ H P ι F δ s R E post => ?_⟩
  exact post σ H ι F (Grow.refl _ _) R E
end
/-! ## what the except suite holds is tracked -/
theorem Inv.track {X : Cx} {pins : List (Addr × Obj)} {σ : L2.St} {H : Hp} {s : Shared} {a : Addr} {cls : Value} {oe : Obj} {vs : Array Value} (I : Inv X pins σ H s) (ha : s.heap.get? a = some oe) (hz : Zc cls none oe) (hd : oe.data = .fields vs) (na : H a = none) (nL : a ≠ X.env.locals)
    (n0 : X.s_0.heap.get? a = none) (np : ∀ p ∈ X.pn ++ pins, p.1 ≠ a) : Inv X pins σ (upd H a (ExV cls a)) s := by
  have un : ∀ b, b ≠ a → upd H a (ExV cls a) b = H b := fun b h => upd_ne h
  refine ⟨I.ok, I.os, I.bare, ⟨I.base.keep, I.base.slot, fun b o e n hx => ?_, I.base.there, fun b xs e => ?_, fun b o u e => ?_, fun b ps e => ?_⟩, I.loc, I.cell, ?_, fun x c e => ?_, fun p hp => ?_, fun b u e => ?_, I.len⟩
  · rw [un b fun z => by subst z; rw [n0] at e; cases e]
    exact I.base.free b o e n hx
  · have q := I.base.tups b xs e
    rw [un b fun z => by subst z; rw [na] at q; cases q]
    exact q
  · have q := I.base.frzs b o u e
    rw [un b fun z => by subst z; rw [na] at q; cases q]
    exact q
  · obtain ⟨more, q⟩ := I.base.tbls b ps e
    rw [un b fun z => by subst z; rw [na] at q; cases q]
    exact ⟨more, q⟩
  · rw [un _ (Ne.symm nL)]
    exact I.free
  · rw [un c fun z => by
      subst z
      obtain ⟨v, o, ho, hd'⟩ := I.cell x c e
      rw [ha] at ho; cases ho
      rw [hd] at hd'; cases hd']
    exact I.freeC x c e
  · obtain ⟨e, n, ne, nf, d⟩ := I.pin p hp
    exact ⟨e, by rw [un _ (np p hp)]; exact n, ne, nf, d⟩
  · by_cases hb : b = a
    · subst hb
      rw [upd_same] at e
      cases e
      exact ⟨⟨oe, ha, hz, vs, hd⟩, ⟨oe, ha⟩, fun h1 h2 q k => by
        obtain ⟨o, q1, q2⟩ := q
        exact ⟨o, k o q1, q2⟩⟩
    · rw [un b hb] at e
      exact (I.hok b u e).stay (fun _ _ _ q => q) (fun c q => by rw [upd_ne (ne_of_none q na)]; exact q) fun c xs q => by rw [upd_ne (ne_of_none q na)]; exact q
/-- what the clause wishes of an exception of the body; i: the name's slot -/
def setO (i : Option Nat) (o : Option V) (σ : L2.St) : L2.St := match i with
  | some i => σ.set i o
  | none => σ
def wTr (K : PySem.W.Frag) (c : Value) (i : Option Nat) (ts : TS) (Wout : WX) (D : Ends) : WX := fun cls d σ H =>
  ∃ b, PySem.W.exmOne K cls c = some b ∧ (b = true → d = none ∧ ∀ a, H a = none → ts { nx := fun σ' H' => D.nx (setO i none σ') H', rt := D.rt, bk := fun σ' H' => D.bk (setO i none σ') H', ct := fun σ' H' => D.ct (setO i none σ') H' } (setO i (some (.ref a)) σ) (upd H a (ExV cls a))) ∧
    (b = false → Wout cls d σ H)
section
variable {X : Cx} {x n : Str} {c : Value} {i : Nat} {body suite : List Stmt} {b₀ : Stmt} {np pos pos' : Pos} {tb : WX → TS} {ts : TS} {Wout : WX}
theorem Inv.toSuite {pins : List (Addr × Obj)} {σ : L2.St} {H : Hp} {s : Shared} (I : Inv X pins σ H s) (a : Addr) : Inv (X.suite a (X.pn ++ pins)) [] σ H s :=
  ⟨I.ok.suite _ _, I.os, I.bare, I.base, I.loc, I.cell, I.free, I.freeC, fun p hp => I.pin p (by rw [List.append_nil] at hp; exact hp), I.hok, I.len⟩
theorem Inv.ofSuite {pins pn' : List (Addr × Obj)} {σ : L2.St} {H : Hp} {s : Shared} {a : Addr} (I : Inv (X.suite a (X.pn ++ pins)) pn' σ H s) (ok : X.Ok) : Inv X pins σ H s :=
  ⟨ok, I.os, I.bare, I.base, I.loc, I.cell, I.free, I.freeC, fun p hp => I.pin p (List.mem_append_left _ hp), I.hok, I.len⟩
theorem ps_tryT (hs : X.stack = X.env :: X.outer) (hf : X.env.frame = some X.env.locals) (hex : X.ex = []) (hN : X.N.Nodup) (hi : X.N[i]? = some n) (hln : X.env.kindOf n = some .local) (hc : Names X x c) (tk : Takes X Wout)
    (hb : ∀ (W : WX) (pn : List (Addr × Obj)) (xe : Value → Shared → Prop), Takes (X.tr pn xe) W → PassesOwn (model X.prog X.w) X.A X.env xe → PSs (X.tr pn xe) body (tb W))
    (hsu : ∀ (a : Addr) (pn : List (Addr × Obj)), PSs (X.suite a pn) (b₀ :: suite) ts) :
    PS X (.Try body [.ExceptHandler (some (.Name x np)) (some n) (b₀ :: suite) pos'] [] [] pos) (fun D σ H => tb (wTr X.K c (some i) ts Wout D) D σ H) := by
  refine ⟨fun pins s σ H D I h => ?_⟩
  have ok := I.ok
  have hfr : X.A.frames = some (X.env :: X.outer) := by rw [ok.frames, hs]
  have hloc : Loc X.env.scope n := .inl hln
  refine wpAny_Try_except ?_
  refine wpAny_mono ((hb (wTr X.K c (some i) ts Wout D) (X.pn ++ pins) (fun e s₁ => wpAny (model X.prog X.w) X.A (noteFrame e X.env) (fun _ s₂ => wpAny (model X.prog X.w) X.A (setFlight e none) (fun _ s₃ =>
    wpAny (model X.prog X.w) X.A (handleBy e X.env [.ExceptHandler (some (.Name x np)) (some n) (b₀ :: suite) pos']) (SP X pins D) X.xe s₃) X.xe s₂) X.xe s₁) (fun u s' xx => ?_) PassesOwn.looking).run [] s σ H D (I.toTry _) h) (fun f s1 hsp => ?_) (fun e s1 he => he)
  · obtain ⟨a, B, sI, pins', σ', H', cls, d, rfl, J', nb, up, sky, na, os, ag, b, hb1, hyes, hno⟩ := xx
    have J : Inv X pins σ' H' sI := J'.ofTry ok
    have sky' : Sky B (X.env :: X.outer) a (Zc cls d) X.env.locals s'.heap := by rw [← hs]; exact sky
    show wpAny (model X.prog X.w) X.A (noteFrame (.ref a) X.env) _ _ _
    refine Sky.land Zc.steady hfr hf sky' fun h3 fl3 up3 => ?_
    have J3 : Inv X pins σ' H' { s' with heap := h3 } := J.landed nb fl3.1 (up.trans up3) os ag
    obtain ⟨oe3, vs3, he3, hz3, hd3⟩ := fl3.there
    have notFr : ∀ {h : Heap} {o : Obj} {vs : Array Value}, h.FunFrames B (X.env :: X.outer) → h.get? a = some o → o.data = .fields vs → a ∉ frs (X.env :: X.outer) := fun {h o vs} ff e dd hm => by
      obtain ⟨_, o', e', hnf⟩ := ff.mem hm
      rw [e] at e'; cases e'
      exact hnf _ dd
    have nfr := notFr fl3.2.2.1 he3 hd3
    have nL : a ≠ X.env.locals := fun z => nfr (List.mem_filterMap.mpr ⟨X.env, List.mem_cons_self, by rw [hf, z]⟩)
    have nF : a ∉ X.fs := fun hm => by
      obtain ⟨e, he, q⟩ := List.mem_filterMap.mp hm
      exact nfr (List.mem_filterMap.mpr ⟨e, List.mem_cons_of_mem _ he, q⟩)
    have S3 := J3.suite he3 hd3 na nL nF
    refine wpAny_handleBy_cons (codeAny_handlers_test ?_) (by intro q; cases q)
    have LT : PySem.W.Looks (model X.prog X.w) h3 (typeOf (.ref a)) cls := fun A Q E s k q => wpAny_typeOf_ref (k _ _ he3) (by rw [hz3.1]; exact q)
    have LM := PySem.W.exm_one (M := model X.prog X.w) (J3.kIn) LT hb1
    have test : ∀ {Q : Value → Shared → Prop} {E : Value → Shared → Prop}, Q c { s' with heap := h3 } → wpAny (model X.prog X.w) (X.A.mark (some (.ref a))) (eval (.Name x np) X.env) Q E { s' with heap := h3 } := fun {Q E} q => by
      obtain ⟨hg, hdbg, hm | ⟨hm, hv, hnn⟩⟩ := hc
      · exact ld_glob (X := X.suite a ((a, oe3) :: (X.pn ++ pins))) S3 hg hm q hdbg
      · exact ld_blt (X := X.suite a ((a, oe3) :: (X.pn ++ pins))) S3 hg hm hv q hnn hdbg
    refine test (LM.here ?_)
    cases b with
    | true =>
      refine codeAny_handlers_suite_as ?_
      refine HandSPX.lands_againZ fl3 fun h4 fl4 up4 => ?_
      have J4 : Inv X pins σ' H' { s' with heap := h4 } := J.landed nb fl4.1 ((up.trans up3).trans up4) os ag
      obtain ⟨oe4, vs4, he4, hz4, hd4⟩ := fl4.there
      obtain ⟨rfl, hyes'⟩ := hyes rfl
      have nst : a ∉ frs X.stack := by rw [hs]; exact nfr
      have n0 : X.s_0.heap.get? a = none := by
        cases q : X.s_0.heap.get? a with
        | none => rfl
        | some o =>
          obtain ⟨o', e'⟩ := J.base.there a o q (by rw [hex]; exact fun z => by cases z)
          have z := nb a o' e' nst
          rw [fl4.2.1] at z; cases z
      have np' : ∀ p ∈ X.pn ++ pins, p.1 ≠ a := fun p hp z => by
        obtain ⟨e, _⟩ := J.pin p hp
        rw [z] at e
        have y := nb a _ e nst
        rw [fl4.2.1] at y; cases y
      have J5 := Inv.track J4 he4 hz4 hd4 na nL n0 np'
      refine store_ok (X := X.suite a (X.pn ++ pins)) (v := .ref a) (Inv.toSuite J5 a) hN hi hloc rfl (fun s5 S5 => ?_) (.inr hln)
      refine wpAny_mono ((hsu a (X.pn ++ pins)).run [] s5 _ _ _ S5 (hyes' a na)) (fun f s6 hsp => ?_) (fun _ _ z => False.elim z)
      have end_ : ∀ {σ6 : L2.St} {H6 : Hp} {Q : Shared → Prop}, Inv (X.suite a (X.pn ++ pins)) [] σ6 H6 s6 → (∀ s7, Inv X pins (σ6.set i none) H6 s7 → Q s7) →
          wpAny (model X.prog X.w) X.A (do bindName X.env n .none; unbindBehindTheSuite X.env n pos') (fun _ s7 => Q s7) X.xe s6 := fun {σ6 H6 Q} S6 hq => gone_ok (Inv.ofSuite S6 ok) hN hi hln hq
      cases f with
      | next =>
        obtain ⟨σ6, H6, S6, q6⟩ := hsp
        exact end_ S6 fun s7 J7 => ⟨_, _, J7, q6⟩
      | brk =>
        obtain ⟨σ6, H6, S6, q6⟩ := hsp
        exact end_ S6 fun s7 J7 => ⟨_, _, J7, q6⟩
      | cont =>
        obtain ⟨σ6, H6, S6, q6⟩ := hsp
        exact end_ S6 fun s7 J7 => ⟨_, _, J7, q6⟩
      | ret u =>
        obtain ⟨v6, σ6, H6, S6, r6, q6⟩ := hsp
        exact end_ S6 fun s7 J7 => ⟨_, _, _, J7, r6, q6⟩
    | false =>
      show wpAny _ X.A (handleBy (.ref a) X.env []) _ _ _
      refine wpAny_handleBy_nil ?_
      obtain ⟨k1, k2, k3, oe, vs, T, oT, ts', he, hz, hd, h1, hr⟩ := id fl3
      unfold PySem.passOn
      refine wpAny_bind (wpAny_field he hd h1 ?_)
      rw [if_neg (show ¬ ((Value.ref T == Value.none) = true) from by simp)]
      have fin : wpAny (model X.prog X.w) X.A (setFlight (.ref a) X.env.frame) (fun _ s4 => wpAny (model X.prog X.w) X.A (throw (.ref a) : Sem Flow) (SP X pins D) X.xe s4) X.xe { s' with heap := h3 } := by
        rw [hf]
        refine HandSPX.setFlight_upZ fl3 fun h4 hh4 up4 => wpAny_throw (tk _ _ ?_)
        exact ⟨a, B, sI, pins, σ', H', cls, d, rfl, J, nb, (up.trans up3).trans up4, .inr (.inr (by rw [hs]; exact hh4)), na, os, ag, hno rfl⟩
      first
        | exact wpAny_bind (wpAny_pure (wpAny_bind fin))
        | exact wpAny_bind fin
  · cases f with
    | next =>
      obtain ⟨σ', H', J', q⟩ := hsp
      exact wpAny_execs_nil ⟨σ', H', J'.ofTry ok, q⟩
    | brk =>
      obtain ⟨σ', H', J', q⟩ := hsp
      exact ⟨σ', H', J'.ofTry ok, q⟩
    | cont =>
      obtain ⟨σ', H', J', q⟩ := hsp
      exact ⟨σ', H', J'.ofTry ok, q⟩
    | ret u =>
      obtain ⟨v, σ', H', J', r, q⟩ := hsp
      exact ⟨v, σ', H', J'.ofTry ok, r, q⟩
end
/-! ## try -/
def canS (T : Tb) (W : WX) (g : DS) : TS := fun D σ H => ∃ P ι F δ s, RelH T P ι F s H ∧ REnv T F ι δ σ ∧ PostS T P D W F ι (g δ s)
theorem PSs.weak {X : Cx} {b : List Stmt} {t t' : TS} (h : PSs X b t) (k : ∀ D σ H, t' D σ H → t D σ H) : PSs X b t' := ⟨fun pins s σ H D I q => h.run pins s σ H D I (k _ _ _ q)⟩
theorem DenS.can {T : Tb} {W : WX} {t : TS} {g : DS} (d : DenS T W t g) {D : Ends} {σ : L2.St} {H : Hp} (h : canS T W g D σ H) : t D σ H := by
  obtain ⟨P, ι, F, δ, s, R, E, post⟩ := h
  exact d _ _ _ _ _ _ _ _ R E post
def setE (i : Option Nat) (o : Option D) (δ : Env) : Env := match i with
  | some i => δ.set i o
  | none => δ
def Out.unset (i : Option Nat) : Out → Out
  | .nx δ s => .nx (setE i none δ) s
  | .bk δ s => .bk (setE i none δ) s
  | .ct δ s => .ct (setE i none δ) s
  | .rt d s => .rt d s
  | _ => .stuck
def sTry (anc : Nat → Nat → Option Bool) (c : Nat) (i : Option Nat) (f g : DS) : DS := fun δ s => match f δ s with
  | .ex k δ1 s1 => match anc k c with
    | some true => (g (setE i (some (.exc k)) δ1) s1).unset i
    | some false => .ex k δ1 s1
    | none => .stuck
  | o => o
section
variable {T : Tb} {X : Cx} {par : List Nat}
theorem REnv.setO {F : Hp} {ι : List Addr} {δ : Env} {σ : L2.St} {d : D} {v : V} (e : REnv T F ι δ σ) (h : Rp T F ι d v) (i : Option Nat) : REnv T F ι (setE i (some d) δ) (Mp.setO i (some v) σ) := by
  cases i with
  | none => exact e
  | some i => exact e.set h i
theorem REnv.unsetO {F : Hp} {ι : List Addr} {δ : Env} {σ : L2.St} (e : REnv T F ι δ σ) (i : Option Nat) : REnv T F ι (setE i none δ) (Mp.setO i none σ) := by
  cases i with
  | none => exact e
  | some i => exact e.unset i
theorem den_try {W : WX} {c : Nat} {i : Option Nat} {f g : DS} (x1 : ExT T.K T.ca par) : DenS T W (fun D σ H => canS T (wTr T.K (.ref (T.ca c)) i (canS T W0 g) W D) f D σ H) (sTry (ancO par) c i f g) := fun En σ H P ι F δ s R E post => by
  refine ⟨P, ι, F, δ, s, R, E, ?_⟩
  unfold sTry at post
  cases e : f δ s with
  | ex k δ1 s1 =>
    rw [e] at post
    intro σ' H' ι' F' g' R' E'
    dsimp only at post
    cases q : ancO par k c with
    | none => rw [q] at post; exact post.elim
    | some b =>
      refine ⟨b, x1.exm k c b q, fun hb => ⟨rfl, fun a na => ?_⟩, fun hb => ?_⟩
      · subst hb
        rw [q] at post
        dsimp only at post
        have R2 := R'.new na (ExV (.ref (T.ca k)) a)
        have g2 : Grow F' ι' (upd F' a (ExV (.ref (T.ca k)) a)) ι' := grow_new (R'.freeF na) _
        refine ⟨P, ι', _, setE i (some (.exc k)) δ1, s1, R2, (E'.mono g2).setO (by unfold Rp; exact ⟨a, rfl, upd_same⟩) i, ?_⟩
        have gg := g'.trans g2
        cases e2 : g (setE i (some (.exc k)) δ1) s1 with
        | nx δ2 s2 =>
          rw [e2] at post
          exact fun σ3 H3 ι3 F3 g3 R3 E3 => post _ H3 ι3 F3 (gg.trans g3) R3 (E3.unsetO i)
        | bk δ2 s2 =>
          rw [e2] at post
          exact fun σ3 H3 ι3 F3 g3 R3 E3 => post _ H3 ι3 F3 (gg.trans g3) R3 (E3.unsetO i)
        | ct δ2 s2 =>
          rw [e2] at post
          exact fun σ3 H3 ι3 F3 g3 R3 E3 => post _ H3 ι3 F3 (gg.trans g3) R3 (E3.unsetO i)
        | rt d s2 =>
          rw [e2] at post
          exact fun v H3 ι3 F3 g3 R3 r3 => post v H3 ι3 F3 (gg.trans g3) R3 r3
        | ex k2 δ2 s2 => rw [e2] at post; exact post.elim
        | stuck => rw [e2] at post; exact post.elim
      · subst hb
        rw [q] at post
        exact post σ' H' ι' F' g' R' E'
  | nx δ1 s1 => rw [e] at post; exact post
  | rt d s1 => rw [e] at post; exact post
  | bk δ1 s1 => rw [e] at post; exact post
  | ct δ1 s1 => rw [e] at post; exact post
  | stuck => rw [e] at post; exact post
theorem s_tryA {x n : Str} {body suite : List Stmt} {b₀ : Stmt} {np pos pos' : Pos} {f g : DS} (c i : Nat) (x1 : ExT T.K T.ca par) (hN : X.N.Nodup) (gC : X.mg x = some (.ref (T.ca c))) (hb : PDb T X body f) (hsu : ∀ (a : Addr) (pn : List (Addr × Obj)), PDb T (X.suite a pn) (b₀ :: suite) g)
    (hi : X.N[i]? = some n := by rfl) (hln : X.env.kindOf n = some .local := by rfl) (hg : Gl X x := by rfl) (hdb : (x == ("__debug__" : Str)) = false := by decide) (hs : X.stack = X.env :: X.outer := by rfl) (hf : X.env.frame = some X.env.locals := by rfl) (hex : X.ex = [] := by rfl) (hK : X.K = T.K := by rfl) :
    PDs T X (.Try body [.ExceptHandler (some (.Name x np)) (some n) (b₀ :: suite) pos'] [] [] pos) (sTry (ancO par) c (some i) f g) := fun pn xe W tk ow => by
  have hK' : (X.tr pn xe).K = T.K := hK
  have key := ps_tryT (X := X.tr pn xe) (x := x) (n := n) (c := .ref (T.ca c)) (i := i) (body := body) (suite := suite) (b₀ := b₀) (np := np) (pos := pos) (pos' := pos') (tb := fun W' => canS T W' f) (ts := canS T W0 g) (Wout := W) hs hf hex hN hi hln ⟨hg, hdb, .inl gC⟩ tk
    (fun W' pn' xe' tk' ow' => by
      obtain ⟨t, p, d⟩ := hb pn' xe' W' tk' ow'
      exact PSs.weak p fun D σ H q => d.can q)
    (fun a pn' => by
      obtain ⟨t, p, d⟩ := hsu a pn' pn' (fun _ _ => False) W0 takes0 PassesOwn.never
      exact PSs.weak p fun D σ H q => d.can q)
  rw [hK'] at key
  exact ⟨_, key, den_try x1⟩
end
/-! ## isinstance, exceptions among -/
theorem CallR.or {X : Cx} {f : Value} {r r' : List V → Hp → VK → Prop} (h : CallR X f r) (h' : CallR X f r') : CallR X f (fun vs H Q => r vs H Q ∨ r' vs H Q) := by
  intro pins s σ H xs us Q I rv q
  rcases q with q | q
  · exact h pins s σ H xs us Q I rv q
  · exact h' pins s σ H xs us Q I rv q
def rIsX (K : PySem.W.Frag) : List V → Hp → VK → Prop := fun xs H Q => ∃ (a D : Addr) (c : V) (cv : Value) (b : Bool), xs = [.ref a, c] ∧ H a = some (ExV (.ref D) a) ∧ ExcC K D ∧ ClsV c cv ∧ PySem.W.kitOne K (.ref D) cv = some b ∧ Q (.bl b) H
theorem call_isX {X : Cx} : CallR X (.builtin "isinstance") (rIsX X.K) := by
  intro pins s σ H xs us Q I r h
  obtain ⟨a, D, c, cv, b, rfl, hH, C, hcv, e, q⟩ := h
  obtain ⟨u1, u2, rfl, r1, r2⟩ := vals2 r
  cases (show u1 = Value.ref a from r1)
  have e2 := hcv.eq r2
  subst e2
  obtain ⟨⟨oe, hget, hz, vs, hv⟩, _⟩ := (show ObjOk X.prog X.w H s.heap a (ExV (.ref D) a) from I.hok a _ hH)
  have J : PySem.W.InstAt s.heap a oe D none := by
    obtain ⟨oc, od, oda, osl⟩ := oe
    obtain ⟨h1, h2⟩ := hz
    dsimp only at h1 h2 hv
    subst h1 h2 hv
    exact ⟨hget, rfl, rfl, trivial⟩
  exact PySem.W.kia_one (PySem.W.handS_kitx_exc C.hg C.hk C.hs C.hd C.ha C.hn C.ht C.hm) I.kIn J e (fun z => nomatch z) fun tk => ⟨.bl b, H, I.kept (t' := tk) fun _ _ z => z, rfl, q⟩
def rIsA (K : PySem.W.Frag) : List V → Hp → VK → Prop := fun xs H Q => rIsi K xs H Q ∨ rIsX K xs H Q
theorem call_isA {X : Cx} : CallR X (.builtin "isinstance") (rIsA X.K) := CallR.or call_isi call_isX
def bIsA (par : List Nat) : DB
  | [.exc k, .cls c], s => match ancO par k c with
    | some b => .ok (.bl b) s
    | none => .stuck
  | [.exc k, .ty n], s => if n = "ValueError" ∧ k < par.length then .ok (.bl true) s else .stuck
  | [x, .ty n], s => match tyOf s x with
    | some t => match kitB t n with
      | some b => .ok (.bl b) s
      | none => .stuck
    | none => .stuck
  | _, _ => .stuck
theorem db_isA {T : Tb} {par : List Nat} (x1 : ExT T.K T.ca par) : DenB T (rIsA T.K) (bIsA par) := by
  intro ds vs H P ι F s Q E R r post
  unfold bIsA at post
  split at post
  · rename_i k c
    obtain ⟨v, u, rfl, h1, h2⟩ := rps2 r
    unfold Rp at h1 h2
    obtain ⟨a, rfl, h1⟩ := h1
    subst h2
    split at post
    · rename_i b hb
      have hk : k < par.length := by
        unfold ancO at hb
        split at hb
        · rename_i z; exact z.1
        · cases hb
      exact .inr ⟨a, T.ca k, .ref (T.ca c), .ref (T.ca c), b, rfl, R.sub _ _ h1, x1.exc _ hk, .own _, x1.kit _ _ _ hb, post.here R (by unfold Rp; rfl)⟩
    · exact post.elim
  · obtain ⟨v, u, rfl, h1, h2⟩ := rps2 r
    unfold Rp at h1 h2
    obtain ⟨a, rfl, h1⟩ := h1
    subst h2
    split at post
    · rename_i hk
      obtain ⟨rfl, hk⟩ := hk
      exact .inr ⟨a, _, _, _, true, rfl, R.sub _ _ h1, x1.exc _ hk, .ty _, x1.kiv _ hk, post.here R (by unfold Rp; rfl)⟩
    · exact post.elim
  · obtain ⟨v, u, rfl, h1, h2⟩ := rps2 r
    split at post
    · rename_i t ht
      split at post
      · rename_i b hb
        unfold Rp at h2
        subst h2
        exact .inl ⟨v, _, _, _, b, rfl, .ty _, ty_ok R h1 ht, kit_ty hb, post.here R (by unfold Rp; rfl)⟩
      · exact post.elim
    · exact post.elim
  · exact post.elim
end Mp
/-! # MpH -/
namespace Mp
open PySem PySem.Spec L2
/-! ## cells -/
section
variable {T : Tb} {P : Hp} {ι : List Addr} {F : Hp} {s : Sto} {H : Hp}
theorem grow_app (F : Hp) (ι : List Addr) (p : Addr) : Grow F ι F (ι ++ [p]) := ⟨fun _ _ h => h, [p], rfl⟩
/-- a new cell -/
theorem RelH.alloc (R : RelH T P ι F s H) {p : Addr} (hp : H p = none) {o : HO} {c : Cell} (hc : CellAt T (ι ++ [p]) F (upd H p o) p c) : RelH T P (ι ++ [p]) F (s ++ [c]) (upd H p o) := by
  have old : ∀ {n : Nat} {c' : Cell} {a : Addr}, s[n]? = some c' → (ι ++ [p])[n]? = some a → ι[n]? = some a := fun {n c' a} h1 h2 => by
    have := (List.getElem?_eq_some_iff.mp h1).1
    rw [List.getElem?_append_left (by rw [R.len]; exact this)] at h2
    exact h2
  have split_ : ∀ {n : Nat} {c' : Cell}, (s ++ [c])[n]? = some c' → s[n]? = some c' ∨ (n = s.length ∧ c' = c) := fun {n c'} h => by
    by_cases hn : n < s.length
    · rw [List.getElem?_append_left hn] at h; exact .inl h
    · rw [List.getElem?_append_right (Nat.le_of_not_lt hn)] at h
      have hl := (List.getElem?_eq_some_iff.mp h).1
      have e0 : n - s.length = 0 := by simpa using hl
      rw [e0] at h
      exact .inr ⟨by omega, (Option.some.inj h).symm⟩
  have newI : ∀ {a : Addr}, (ι ++ [p])[s.length]? = some a → a = p := fun {a} h => by
    rw [← R.len] at h
    simp at h
    exact h.symm
  have ne : ∀ {n : Nat} {c' : Cell} {a : Addr}, s[n]? = some c' → c'.live = true → ι[n]? = some a → a ≠ p := fun {n c' a} h1 l h2 => by
    obtain ⟨u, hu⟩ := (R.cell n c' a h1 h2).has l
    exact ne_of_none hu hp
  refine ⟨fun a u h => ?_, fun a u h => ?_, R.dis, by simp [R.len], fun n c' a h1 h2 => ?_, fun n c' a h1 l h2 => ?_, fun n m c1 c2 a h1 h2 l1 l2 h3 h4 => ?_⟩
  · have q := R.sub a u h
    rw [upd_ne (ne_of_none q hp)]; exact q
  · have q := R.pro a u h
    rw [upd_ne (ne_of_none q hp)]; exact q
  · rcases split_ h1 with h1 | ⟨rfl, rfl⟩
    · have h2' := old h1 h2
      refine (R.cell n c' a h1 h2').grow (grow_app _ _ _) (fun _ => rfl) (fun l => upd_ne (ne h1 l h2'))
    · rw [newI h2]; exact hc
  · rcases split_ h1 with h1 | ⟨rfl, rfl⟩
    · exact R.npr n c' a h1 l (old h1 h2)
    · rw [newI h2]; exact R.freeP hp
  · rcases split_ h1 with k1 | ⟨e1, f1⟩
    · rcases split_ h2 with k2 | ⟨e2, f2⟩
      · exact R.nod n m c1 c2 a k1 k2 l1 l2 (old k1 h3) (old k2 h4)
      · exact absurd (newI (e2 ▸ h4)) (ne k1 l1 (old k1 h3))
    · rcases split_ h2 with k2 | ⟨e2, f2⟩
      · exact absurd (newI (e1 ▸ h3)) (ne k2 l2 (old k2 h4))
      · rw [e1, e2]
/-- a cell is written -/
theorem RelH.setC (R : RelH T P ι F s H) {n : Nat} {a : Addr} {c c' : Cell} {o : HO} (hs : s[n]? = some c) (hl : c.live = true) (hi : ι[n]? = some a) (hc : CellAt T ι F (upd H a o) a c') : RelH T P ι F (s.set n c') (upd H a o) := by
  have hn := (List.getElem?_eq_some_iff.mp hs).1
  have hF : F a = none := by
    have q := R.cell n c a hs hi
    cases c with
    | dead => cases hl
    | lst _ => exact q.1
    | dct _ _ => exact q.1
    | obj _ _ _ => exact q.1
  have hP := R.npr n c a hs hl hi
  have at_ : ∀ {m : Nat} {d : Cell}, (s.set n c')[m]? = some d → (m = n ∧ d = c') ∨ (m ≠ n ∧ s[m]? = some d) := fun {m d} h => by
    by_cases e : n = m
    · subst e
      rw [List.getElem?_set_self hn] at h
      exact .inl ⟨rfl, (Option.some.inj h).symm⟩
    · rw [List.getElem?_set_ne e] at h
      exact .inr ⟨fun z => e z.symm, h⟩
  have ne : ∀ {m : Nat} {d : Cell} {b : Addr}, m ≠ n → s[m]? = some d → d.live = true → ι[m]? = some b → b ≠ a := fun {m d b} hm h l hb z => by
    subst z
    exact hm (R.nod m n d c b h hs l hl hb hi)
  have hio : ∀ {b : Addr}, ι[n]? = some b → b = a := fun {b} h => by rw [hi] at h; exact (Option.some.inj h).symm
  refine ⟨fun b u h => ?_, fun b u h => ?_, R.dis, by simp [R.len], fun m d b h1 h2 => ?_, fun m d b h1 l h2 => ?_, fun m k c1 c2 b h1 h2 l1 l2 h3 h4 => ?_⟩
  · rw [upd_ne (ne_of_none h hF)]; exact R.sub b u h
  · rw [upd_ne (ne_of_none h hP)]; exact R.pro b u h
  · rcases at_ h1 with ⟨rfl, rfl⟩ | ⟨hm, h1⟩
    · rw [hio h2]; exact hc
    · exact (R.cell m d b h1 h2).grow (Grow.refl _ _) (fun _ => rfl) fun l => upd_ne (ne hm h1 l h2)
  · rcases at_ h1 with ⟨rfl, rfl⟩ | ⟨hm, h1⟩
    · rw [hio h2]; exact hP
    · exact R.npr m d b h1 l h2
  · rcases at_ h1 with ⟨e1, f1⟩ | ⟨hm, k1⟩
    · rcases at_ h2 with ⟨e2, f2⟩ | ⟨hk, k2⟩
      · rw [e1, e2]
      · exact absurd (hio (e1 ▸ h3)) (ne hk k2 l2 h4)
    · rcases at_ h2 with ⟨e2, f2⟩ | ⟨hk, k2⟩
      · exact absurd (hio (e2 ▸ h4)) (ne hm k1 l1 h3)
      · exact R.nod m k c1 c2 b k1 k2 l1 l2 h3 h4
/-- a cell stays as it is from now on -/
theorem RelH.freeze (R : RelH T P ι F s H) {n : Nat} {a : Addr} {c : Cell} {o : HO} (hs : s[n]? = some c) (hl : c.live = true) (hi : ι[n]? = some a) (hF : F a = none) (hH : H a = some o) : RelH T P ι (upd F a o) (s.set n .dead) H := by
  have hn := (List.getElem?_eq_some_iff.mp hs).1
  have hP := R.npr n c a hs hl hi
  have at_ : ∀ {m : Nat} {d : Cell}, (s.set n .dead)[m]? = some d → d.live = true → m ≠ n ∧ s[m]? = some d := fun {m d} h l => by
    by_cases e : n = m
    · subst e
      rw [List.getElem?_set_self hn] at h
      cases h
      cases l
    · rw [List.getElem?_set_ne e] at h
      exact ⟨fun z => e z.symm, h⟩
  have g : Grow F ι (upd F a o) ι := grow_new hF o
  refine ⟨fun b u h => ?_, R.pro, fun b u h => ?_, by simp [R.len], fun m d b h1 h2 => ?_, fun m d b h1 l h2 => R.npr m d b (at_ h1 l).2 l h2, fun m k c1 c2 b h1 h2 l1 l2 h3 h4 => R.nod m k c1 c2 b (at_ h1 l1).2 (at_ h2 l2).2 l1 l2 h3 h4⟩
  · by_cases e : b = a
    · subst e; rw [upd_same] at h; cases h; exact hH
    · rw [upd_ne e] at h; exact R.sub b u h
  · rw [upd_ne (ne_of_none h hP)]; exact R.dis b u h
  · cases hd : d.live with
    | false =>
      cases d with
      | dead => trivial
      | _ => cases hd
    | true =>
      obtain ⟨hm, h1⟩ := at_ h1 hd
      refine (R.cell m d b h1 h2).grow g (fun l => upd_ne fun z => ?_) (fun _ => rfl)
      subst z
      exact hm (R.nod m n d c b h1 hs l hl h2 hi)
theorem lc_of (R : RelH T P ι F s H) {n : Nat} {a : Addr} {xs : List D} (hs : s[n]? = some (.lst xs)) (hi : ι[n]? = some a) : F a = none ∧ ∃ vs, H a = some (.lst vs) ∧ Rps T F ι xs vs := R.cell n _ a hs hi
end
/-- [..] as a cell -/
def dLstC (f : DA) : DE := fun δ s => (f δ s).bind fun xs s1 => if xs.length ≤ lim then .ok (.loc s1.length) (s1 ++ [.lst xs]) else .stuck
section
variable {T : Tb} {X : Cx}
theorem post_loc {P : Hp} {ι : List Addr} {F : Hp} {s : Sto} {H : Hp} {Q : V → Hp → Prop} {E : Nat → Hp → Prop} {p : Addr} {o : HO} {c : Cell} (post : Post T P (Rp T) Q E F ι (.ok (.loc s.length) (s ++ [c]))) (R : RelH T P ι F s H) (hp : H p = none)
    (hc : CellAt T (ι ++ [p]) F (upd H p o) p c) : Q (.ref p) (upd H p o) := by
  refine post (.ref p) _ _ _ (grow_app _ _ p) (R.alloc hp hc) ?_
  unfold Rp
  exact ⟨p, by rw [← R.len]; simp, rfl⟩
theorem d_lstC {es : List Expr} {pos : Pos} {f : DA} (h : PDa T X es f) : PDe T X (.List es pos) (dLstC f) := fun pn xe W tk => by
  obtain ⟨t1, p1, d1⟩ := h pn xe W tk
  refine ⟨_, pe_lst p1, fun σ H P ι F δ s Q R E post => ?_⟩
  show t1 σ H _
  refine den_then d1 R E post fun x y H1 ι1 F1 s1 g1 R1 E1 r1 post1 => ?_
  split at post1
  · rename_i hl
    refine ⟨by rw [← r1.1.len]; exact lim_le hl, fun p hp => post_loc post1 R1 hp ?_⟩
    exact ⟨R1.freeF hp, _, upd_same, r1.1.mono (grow_app _ _ _)⟩
  · exact post1.elim
/-- {}, not written -/
theorem d_dct0 {pos : Pos} : PDe T X (.Dict [] [] pos) (dC (.dct [] [])) := fun pn xe W tk => ⟨_, pe_dnewK, fun σ H P ι F δ s Q R E post p hp => by
  refine post.new R hp fun g => ?_
  unfold Rp
  exact ⟨p, [], rfl, .inl upd_same, rfl, .nil⟩⟩
/-! ## x[i] = e -/
def setAt (o i d : D) (s : Sto) : Option Sto := match o, i with
  | .loc n, .int k => match s[n]? with
    | some (.lst xs) => match ixN xs.length k with
      | some j => some (s.set n (.lst (xs.set j d)))
      | none => none
    | _ => none
  | _, _ => none
def sIxS (f fo fi : DE) : DS := fun δ s => (f δ s).out δ fun d s1 => (fo δ s1).out δ fun o s2 => (fi δ s2).out δ fun i s3 => match setAt o i d s3 with
  | some s4 => .nx δ s4
  | none => .stuck
theorem s_ixS {o i e : Expr} {tpos pos : Pos} {f fo fi : DE} (he : PDe T X e f) (ho : PDe T X o fo) (hi : PDe T X i fi)
    (ha : ∀ v, assign (.Subscript o i tpos) X.env v = (do
      let ov ← holding [v] (eval o X.env)
      let iv ← holding [v, ov] (eval i X.env)
      standAt tpos
      holding [v, ov, iv] (setItem ov iv v)
      release [v, ov, iv] []) := by intro _; rfl)
    (hs : swapsWithSole [.Subscript o i tpos] e pos.line X.env = pure false := by rfl) (hw : swappedStores [.Subscript o i tpos] e X.env = pure none := by rfl)
    (h1 : (assignEach [.Subscript o i tpos] X.env).map (·.2) = [assign (.Subscript o i tpos) X.env] := by rfl) : PDs T X (.Assign [.Subscript o i tpos] e pos) (sIxS f fo fi) := fun pn xe W tk _ => by
  obtain ⟨t1, p1, d1⟩ := he pn xe W tk
  obtain ⟨t2, p2, d2⟩ := ho pn xe W tk
  obtain ⟨t3, p3, d3⟩ := hi pn xe W tk
  refine ⟨_, ps_asg (X := X.tr pn xe) p1 (pg_sub (X := X.tr pn xe) p2 p3 set_list ha) hs hw h1, fun En σ H P ι F δ s R E post => ?_⟩
  show t1 σ H _
  refine dens_then d1 R E post fun x y H1 ι1 F1 s1 g1 R1 E1 r1 post1 => ?_
  show t2 σ H1 _
  refine dens_then d2 R1 E1 post1 fun x2 y2 H2 ι2 F2 s2 g2 R2 E2 r2 post2 => ?_
  refine dens_then d3 R2 E2 post2 fun x3 y3 H3 ι3 F3 s3 g3 R3 E3 r3 post3 => ?_
  have rx := (r1.mono g2).mono g3
  have ro := r2.mono g3
  cases q : setAt x2 x3 x s3 with
  | none => rw [q] at post3; exact post3.elim
  | some s4 =>
    rw [q] at post3
    unfold setAt at q
    split at q
    · rename_i n k
      split at q
      · rename_i xs hs3
        split at q
        · rename_i j hj
          cases q
          unfold Rp at ro r3
          obtain ⟨a, e1, rfl⟩ := ro
          obtain ⟨h1, vs, h2, h3⟩ := lc_of R3 hs3 e1
          refine ⟨a, vs, k, j, rfl, r3, h2, by rw [← h3.len]; exact hj, ?_⟩
          exact post3 σ _ ι3 F3 (Grow.refl _ _) (R3.setC hs3 rfl e1 ⟨h1, _, upd_same, Rps.set rx j h3⟩) E3
        · cases q
      · cases q
    · cases q
/-! ## a slot's cell stays as it is from now on -/
def frzD (s : Sto) : D → Option (D × Sto)
  | .loc n => match s[n]? with
    | some (.lst xs) => some (.lst xs, s.set n .dead)
    | some (.dct ks xs) => some (.dct ks xs, s.set n .dead)
    | some (.obj c ns xs) => some (.obj c ns xs, s.set n .dead)
    | _ => none
  | d => some (d, s)
def sFrz (i : Nat) : DS := fun δ s => match δ[i]? with
  | some (some d) => match frzD s d with
    | some (d', s') => .nx (δ.set i (some d')) s'
    | none => .nx δ s
  | _ => .nx δ s
theorem frz_ok {P : Hp} {ι : List Addr} {F : Hp} {s s' : Sto} {H : Hp} {d d' : D} {v : V} (R : RelH T P ι F s H) (r : Rp T F ι d v) (h : frzD s d = some (d', s')) : ∃ F', Grow F ι F' ι ∧ RelH T P ι F' s' H ∧ Rp T F' ι d' v := by
  unfold frzD at h
  split at h
  · rename_i n
    unfold Rp at r
    obtain ⟨a, e1, rfl⟩ := r
    split at h
    · rename_i xs hs
      cases h
      obtain ⟨h1, vs, h2, h3⟩ := R.cell _ _ _ hs e1
      refine ⟨upd F a (.lst vs), grow_new h1 _, R.freeze hs rfl e1 h1 h2, ?_⟩
      unfold Rp
      exact ⟨a, vs, rfl, upd_same, h3.mono (grow_new h1 _)⟩
    · rename_i ks xs hs
      cases h
      obtain ⟨h1, kvs, h2, h3, h4⟩ := R.cell _ _ _ hs e1
      refine ⟨upd F a (.dK kvs), grow_new h1 _, R.freeze hs rfl e1 h1 h2, ?_⟩
      unfold Rp
      exact ⟨a, kvs, rfl, .inl upd_same, h3, h4.mono (grow_new h1 _)⟩
    · rename_i c ns xs hs
      cases h
      obtain ⟨h1, dx, fs, h2, h3, h4⟩ := R.cell _ _ _ hs e1
      refine ⟨upd F a (.ins (T.ca c) dx fs), grow_new h1 _, R.freeze hs rfl e1 h1 h2, ?_⟩
      unfold Rp
      exact ⟨a, dx, fs, rfl, upd_same, h3, h4.mono (grow_new h1 _)⟩
    · cases h
  · cases h
    exact ⟨F, Grow.refl _ _, R, r⟩
/-- ahead of the rest of a block -/
theorem b_frz {rest : List Stmt} {g : DS} (i : Nat) (h : PDb T X rest g) : PDb T X rest (sSeq (sFrz i) g) := fun pn xe W tk ow => by
  obtain ⟨t1, p1, d1⟩ := h pn xe W tk ow
  refine ⟨t1, p1, fun En σ H P ι F δ s R E post => ?_⟩
  unfold sSeq sFrz at post
  cases q : δ[i]? with
  | none => rw [q] at post; exact d1 _ _ _ _ _ _ _ _ R E post
  | some o =>
    cases o with
    | none => rw [q] at post; exact d1 _ _ _ _ _ _ _ _ R E post
    | some d =>
      rw [q] at post
      dsimp only at post
      cases hz : frzD s d with
      | none => rw [hz] at post; exact d1 _ _ _ _ _ _ _ _ R E post
      | some z =>
        obtain ⟨d', s'⟩ := z
        rw [hz] at post
        obtain ⟨v, e1, e2⟩ := E.at_ i d q
        obtain ⟨F', g', R', r'⟩ := frz_ok R e2 hz
        have E' := (E.mono g').set r' i
        have hl := (List.getElem?_eq_some_iff.mp e1).1
        have es : σ.set i (some v) = σ := by
          refine List.ext_getElem? fun j => ?_
          by_cases c : i = j
          · subst c; rw [List.getElem?_set_self hl, e1]
          · rw [List.getElem?_set_ne c]
        rw [es] at E'
        exact d1 _ _ _ _ _ _ _ _ R' E' (PostS.mono g' post)
/-! ## o.m(..) of a built-in's method -/
abbrev DM := D → List D → Sto → Res D
def recvTy (s : Sto) : D → Option String
  | .str _ => some "str"
  | .int _ => some "int"
  | .lst _ => some "list"
  | .scr _ => some "list"
  | .loc n => match s[n]? with
    | some (.lst _) => some "list"
    | some (.dct _ _) => some "dict"
    | _ => none
  | _ => none
def DenM (T : Tb) (r : V → List V → Hp → VK → Prop) (op : DM) : Prop := ∀ d ds v vs H P ι F s Q E, RelH T P ι F s H → Rp T F ι d v → Rps T F ι ds vs → Post T P (Rp T) Q E F ι (op d ds s) → r v vs H Q
def dMt (ty : String) (op : DM) (f : DE) (fa : DA) : DE := fun δ s => (f δ s).bind fun x s1 => if recvTy s1 x = some ty then (fa δ s1).bind fun xs s2 => op x xs s2 else .stuck
theorem tyV_of {P : Hp} {ι : List Addr} {F : Hp} {s : Sto} {H : Hp} {d : D} {v : V} {ty : String} (R : RelH T P ι F s H) (r : Rp T F ι d v) (h : recvTy s d = some ty) : tyV T.K ty v H := by
  unfold recvTy at h
  split at h
  · unfold Rp at r; subst r; cases h; rfl
  · unfold Rp at r; subst r; cases h; rfl
  · unfold Rp at r
    obtain ⟨a, vs, rfl, e, _⟩ := r
    cases h
    exact .inl ⟨rfl, vs, SqL.of (R.sub _ _ e)⟩
  · unfold Rp at r
    obtain ⟨a, rfl, e⟩ := r
    cases h
    exact .inl ⟨rfl, _, sql_mono R.sub e⟩
  · unfold Rp at r
    obtain ⟨a, e1, rfl⟩ := r
    split at h
    · rename_i xs hs
      cases h
      obtain ⟨_, vs, h2, _⟩ := R.cell _ _ _ hs e1
      exact .inl ⟨rfl, vs, SqL.of h2⟩
    · rename_i ks xs hs
      cases h
      obtain ⟨_, kvs, h2, _⟩ := R.cell _ _ _ hs e1
      exact .inr (.inr (.inl ⟨rfl, .inl ⟨kvs, h2⟩⟩))
    · cases h
  · cases h
theorem d_mt {o e : Expr} {es : List Expr} {name : Str} {apos cpos : Pos} {ty id : String} {r : V → List V → Hp → VK → Prop} {op : DM} {f : DE} {fa : DA} (pa : PlainAttrs ty) (slot : Slot ty name id) (hty : typeOf (.builtin id) = pure (.type "method_descriptor")) (hm : ∀ pn xe, MtR (X.tr pn xe) id r) (hr : DenM T r op)
    (ho : PDe T X o f) (ha : PDa T X (e :: es) fa) (hbase : attributeBase o name X.env (eval o X.env) = eval o X.env := by rfl)
    (hfew : ((backTo cpos (starEach (e :: es) X.env)).all (fun x => !x.1) && (backToKw cpos (keywordEach [] X.env)).all (fun x => x.1.isSome)
      && decide ((e :: es).length + ([] : List Keyword).length + (if ([] : List Keyword).isEmpty then 0 else 1) < 30)) = true := by rfl)
    (hline : (apos.endLine == cpos.line) = true := by rfl) (hs : starEach (e :: es) X.env = (false, eval e X.env) :: starEach es X.env := by rfl) (hplain : (backTo cpos (starEach es X.env)).any (·.1) = false := by rfl) (hK : X.K = T.K := by rfl) :
    PDe T X (.Call (.Attribute o name apos) (e :: es) [] cpos) (dMt ty op f fa) := fun pn xe W tk => by
  obtain ⟨t1, p1, d1⟩ := ho pn xe W tk
  obtain ⟨t2, p2, d2⟩ := ha pn xe W tk
  have hK' : (X.tr pn xe).K = T.K := hK
  refine ⟨_, pe_bm (X := X.tr pn xe) pa slot hty (hm pn xe) p1 p2 hbase hfew hline hs hplain, fun σ H P ι F δ s Q R E post => ?_⟩
  rw [hK']
  show t1 σ H _
  refine den_then d1 R E post fun x y H1 ι1 F1 s1 g1 R1 E1 r1 post1 => ?_
  split at post1
  · rename_i ht
    refine ⟨tyV_of R1 r1 ht, ?_⟩
    refine den_then d2 R1 E1 post1 fun xs ys H2 ι2 F2 s2 g2 R2 E2 r2 post2 => ?_
    exact hr _ _ _ _ _ _ _ _ _ _ _ R2 (r1.mono g2) r2.1 post2
  · exact post1.elim
theorem d_mt0 {o : Expr} {name : Str} {apos cpos : Pos} {ty id : String} {r : V → List V → Hp → VK → Prop} {op : DM} {f : DE} (pa : PlainAttrs ty) (slot : Slot ty name id) (hty : typeOf (.builtin id) = pure (.type "method_descriptor")) (hm : ∀ pn xe, MtR (X.tr pn xe) id r) (hr : DenM T r op)
    (ho : PDe T X o f) (hbase : attributeBase o name X.env (eval o X.env) = eval o X.env := by rfl) (hline : (apos.endLine == cpos.line) = true := by rfl) (hK : X.K = T.K := by rfl) :
    PDe T X (.Call (.Attribute o name apos) [] [] cpos) (dMt ty op f aNil) := fun pn xe W tk => by
  obtain ⟨t1, p1, d1⟩ := ho pn xe W tk
  have hK' : (X.tr pn xe).K = T.K := hK
  refine ⟨_, pe_bm0 (X := X.tr pn xe) pa slot hty (hm pn xe) p1 hbase hline, fun σ H P ι F δ s Q R E post => ?_⟩
  rw [hK']
  show t1 σ H _
  refine den_then d1 R E post fun x y H1 ι1 F1 s1 g1 R1 E1 r1 post1 => ?_
  split at post1
  · rename_i ht
    exact ⟨tyV_of R1 r1 ht, hr _ _ _ _ _ _ _ _ _ _ _ R1 r1 .nil post1⟩
  · exact post1.elim
end
/-! ## lists' methods -/
def mAppend : DM
  | .loc n, [d], s => match s[n]? with
    | some (.lst xs) => if xs.length < lim then .ok .non (s.set n (.lst (xs ++ [d]))) else .stuck
    | _ => .stuck
  | _, _, _ => .stuck
def mIndex : DM
  | x, [y], s => match lqOf s x with
    | some xs => if (flatD y && xs.all flatD) = true then match xs.findIdx? (fun z => eqF z y) with
      | some j => .ok (.int (j : Nat)) s
      | none => .stuck
      else .stuck
    | none => .stuck
  | _, _, _ => .stuck
def mCount : DM
  | x, [y], s => match lqOf s x with
    | some xs => if (flatD y && xs.all flatD) = true then .ok (.int (xs.countP (fun z => eqF z y) : Nat)) s else .stuck
    | none => .stuck
  | _, _, _ => .stuck
def rCntF (K : PySem.W.Frag) : V → List V → Hp → VK → Prop := fun x xs H Q => ∃ (a : Addr) (ys : List V) (y : V), x = V.ref a ∧ xs = [y] ∧ SqL K H a ys ∧ flatV y = true ∧ ys.all flatV = true ∧ Q (.int (ys.countP fun z => eqV z y : Nat)) H
theorem cnt_eq {y : V} (fy : flatV y = true) : ∀ {ys : List V} {us : List Value}, Vals ys us → ys.all flatV = true → us.countP (eqU y) = ys.countP fun z => eqV z y
  | _, _, .nil, _ => rfl
  | z :: ys, u :: us, .cons r t, f => by
    rw [List.all_cons, Bool.and_eq_true] at f
    rw [List.countP_cons, List.countP_cons, cnt_eq fy t f.2, eqU_of r f.1]
theorem mt_lcntF {X : Cx} : MtR X "list.count" (rCntF X.K) := by
  intro pins s σ H x xs v us Q I rx rxs h
  obtain ⟨a, ys, y, rfl, rfl, hs, fy, fys, q⟩ := h
  cases rx
  obtain ⟨uy, rfl, ry⟩ := rxs.one
  obtain ⟨its, rv, ⟨⟨cls, dd, data, sl⟩, n, ho, hc, hdn, hd⟩, hlen⟩ := I.list hs
  simp only at hc hd
  subst hc hd
  refine PySem.call_meets PySem.F.slot_list_count ⟨_, ho, rfl⟩ PySem.F.entry_list_count (PySem.F.args_list_count_2 _ _)
    (SeqAt.list_countAt a its.toArray n dd sl uy (eqU y)) ⟨ho, fun u hu => mem_eqAt ry fy rv fys u (by simpa using hu), ?_⟩
  have ec : its.toArray.toList.countP (eqU y) = ys.countP fun z => eqV z y := by
    rw [List.toList_toArray]; exact cnt_eq fy rv fys
  refine ⟨.int (ys.countP fun z => eqV z y : Nat), H, I.tok _, ⟨s.toks, ?_⟩, q⟩
  show Value.int ((its.toArray.toList.countP (eqU y) : Nat) : Int) s.toks = Value.int ((ys.countP fun z => eqV z y : Nat) : Int) s.toks
  rw [ec]
section
variable {T : Tb}
theorem flats_ok {F : Hp} {ι : List Addr} : ∀ {ds : List D} {vs : List V}, Rps T F ι ds vs → ds.all flatD = true → vs.all flatV = true
  | [], vs, q, _ => by unfold Rps at q; subst q; rfl
  | d :: ds, vs, q, k => by
    unfold Rps at q
    obtain ⟨u, us, rfl, q1, q2⟩ := q
    rw [List.all_cons, Bool.and_eq_true] at k
    rw [List.all_cons, flat_ok q1 k.1, flats_ok q2 k.2]; rfl
theorem cntF_ok {F : Hp} {ι : List Addr} {x : D} {v : V} (r : Rp T F ι x v) (h : flatD x = true) : ∀ {ds : List D} {vs : List V}, Rps T F ι ds vs → ds.all flatD = true → (vs.countP fun z => eqV z v) = ds.countP fun z => eqF z x
  | [], vs, q, _ => by unfold Rps at q; subst q; rfl
  | d :: ds, vs, q, k => by
    unfold Rps at q
    obtain ⟨u, us, rfl, q1, q2⟩ := q
    rw [List.all_cons, Bool.and_eq_true] at k
    rw [List.countP_cons, List.countP_cons, cntF_ok r h q2 k.2, eqF_ok q1 r k.1 h]
theorem dm_append : DenM T rAppend mAppend := by
  intro d ds v vs H P ι F s Q E R r rs post
  unfold mAppend at post
  split at post
  · rename_i n d' _
    obtain ⟨u, rfl, h1⟩ := rps1 rs
    unfold Rp at r
    obtain ⟨a, e1, rfl⟩ := r
    split at post
    · rename_i xs hs
      split at post
      · rename_i hl
        obtain ⟨h2, us, h3, h4⟩ := lc_of R hs e1
        refine ⟨a, us, u, rfl, rfl, h3, by rw [← h4.len]; exact lim_lt (Nat.le_of_lt hl), ?_⟩
        exact post .non _ ι F (Grow.refl _ _) (R.setC hs rfl e1 ⟨h2, _, upd_same, h4.app (.cons h1 .nil)⟩) (by unfold Rp; rfl)
      · exact post.elim
    · exact post.elim
  · exact post.elim
theorem dm_index : DenM T (rIndex T.K) mIndex := by
  intro d ds v vs H P ι F s Q E R r rs post
  unfold mIndex at post
  split at post
  · obtain ⟨u, rfl, h1⟩ := rps1 rs
    split at post
    · rename_i xs h
      obtain ⟨a, us, rfl, h2, h3⟩ := lq_of R r h
      split at post
      · rename_i hf
        simp only [Bool.and_eq_true] at hf
        split at post
        · rename_i j hj
          rw [List.findIdx?_eq_some_iff_getElem] at hj
          obtain ⟨hj1, hj2, hj3⟩ := hj
          have hd : xs[j]? = some xs[j] := List.getElem?_eq_getElem hj1
          obtain ⟨w, e1, e2⟩ := h3.get hd
          have fd : ∀ {m : Nat} (hm : m < xs.length), flatD xs[m] = true := fun {m} hm => List.all_eq_true.mp hf.2 _ (List.getElem_mem hm)
          refine ⟨a, us, u, j, w, rfl, rfl, h2, flat_ok h1 hf.1, flats_ok h3 hf.2, e1, by rw [eqF_ok e2 h1 (fd hj1) hf.1]; exact hj2, fun m z' hm hz => ?_, post.here R (by unfold Rp; rfl)⟩
          have hm' : m < xs.length := by omega
          obtain ⟨w2, e3, e4⟩ := h3.get (List.getElem?_eq_getElem hm')
          rw [hz] at e3
          cases e3
          rw [eqF_ok e4 h1 (fd hm') hf.1]
          have := hj3 m hm
          simpa using this
        · exact post.elim
      · exact post.elim
    · exact post.elim
  · exact post.elim
theorem dm_count : DenM T (rCntF T.K) mCount := by
  intro d ds v vs H P ι F s Q E R r rs post
  unfold mCount at post
  split at post
  · obtain ⟨u, rfl, h1⟩ := rps1 rs
    split at post
    · rename_i xs h
      obtain ⟨a, us, rfl, h2, h3⟩ := lq_of R r h
      split at post
      · rename_i hf
        simp only [Bool.and_eq_true] at hf
        refine ⟨a, us, u, rfl, rfl, h2, flat_ok h1 hf.1, flats_ok h3 hf.2, ?_⟩
        rw [cntF_ok h1 hf.1 h3 hf.2]
        exact post.here R (by unfold Rp; rfl)
      · exact post.elim
    · exact post.elim
  · exact post.elim
/-! ## texts' methods -/
def un (x : Str) : List Nat := x.cps.toList
theorem S_un (x : Str) : S (un x) = x := by
  obtain ⟨a⟩ := x
  simp [S, un]
/-- of a text and a whole number, of a text and a text, of a text alone -/
def mTxtI (c : List Nat → Int → Bool) (g : Str → Int → Str) : DM
  | .str a, [.int i], s => if c a i = true then .ok (.str (un (g (S a) i))) s else .stuck
  | _, _, _ => .stuck
def mZfill : DM := mTxtI (fun _ i => PadOk i) Txt.zfill
theorem dm_zfill : DenM T (fun x xs H Q => ∃ (a : Str) (i : Int), x = .str a ∧ xs = [.int i] ∧ PadOk i = true ∧ Q (.str (Txt.zfill a i)) H) mZfill := by
  intro d ds v vs H P ι F s Q E R r rs post
  unfold mZfill mTxtI at post
  split at post
  · obtain ⟨u, rfl, h1⟩ := rps1 rs
    unfold Rp at r h1
    split at post
    · rename_i hp
      exact ⟨_, _, r, by rw [h1], hp, post.here R (by unfold Rp; rw [S_un])⟩
    · exact post.elim
  · exact post.elim
/-- text.index(text) -/
def mSIndex : DM
  | .str a, [.str b], s => match Builtin.Str.occurrences (S a) (S b) 0 (S a).length 1 with
    | i :: _ => .ok (.int (i : Nat)) s
    | [] => .stuck
  | _, _, _ => .stuck
theorem dm_sindex : DenM T (fun x xs H Q => ∃ a b i rest, x = .str a ∧ xs = [.str b] ∧ Builtin.Str.occurrences a b 0 a.length 1 = i :: rest ∧ Q (.int (i : Nat)) H) mSIndex := by
  intro d ds v vs H P ι F s Q E R r rs post
  unfold mSIndex at post
  split at post
  · obtain ⟨u, rfl, h1⟩ := rps1 rs
    unfold Rp at r h1
    split at post
    · rename_i i rest ho
      exact ⟨_, _, i, rest, r, by rw [h1], ho, post.here R (by unfold Rp; rfl)⟩
    · exact post.elim
  · exact post.elim
def mFind : DM
  | .str a, [.str b], s => .ok (.int (Txt.find (S a) (S b))) s
  | _, _, _ => .stuck
theorem dm_find : DenM T (fun x xs H Q => ∃ a b, x = .str a ∧ xs = [.str b] ∧ Q (.int (Txt.find a b)) H) mFind := by
  intro d ds v vs H P ι F s Q E R r rs post
  unfold mFind at post
  split at post
  · obtain ⟨u, rfl, h1⟩ := rps1 rs
    unfold Rp at r h1
    exact ⟨_, _, r, by rw [h1], post.here R (by unfold Rp; rfl)⟩
  · exact post.elim
def mStarts : DM
  | .str a, [.str b], s => .ok (.bl (Txt.startswith (S a) (S b))) s
  | _, _, _ => .stuck
theorem dm_starts : DenM T (fun x xs H Q => ∃ a b, x = .str a ∧ xs = [.str b] ∧ Q (.bl (Txt.startswith a b)) H) mStarts := by
  intro d ds v vs H P ι F s Q E R r rs post
  unfold mStarts at post
  split at post
  · obtain ⟨u, rfl, h1⟩ := rps1 rs
    unfold Rp at r h1
    exact ⟨_, _, r, by rw [h1], post.here R (by unfold Rp; rfl)⟩
  · exact post.elim
def mPart : DM
  | .str a, [.str b], s => if (!(b.length == 0) && decide (a.length ≤ lim)) = true then .ok (.tup [.str (un (Txt.partition (S a) (S b)).1), .str (un (Txt.partition (S a) (S b)).2.1), .str (un (Txt.partition (S a) (S b)).2.2)]) s else .stuck
  | _, _, _ => .stuck
theorem dm_part : DenM T (fun x xs H Q => ∃ a b, x = .str a ∧ xs = [.str b] ∧ (b.length == 0) = false ∧ a.length ≤ sizeLine ∧
    ∀ p, H p = none → Q (.ref p) (upd H p (.tup [.str (Txt.partition a b).1, .str (Txt.partition a b).2.1, .str (Txt.partition a b).2.2]))) mPart := by
  intro d ds v vs H P ι F s Q E R r rs post
  unfold mPart at post
  split at post
  · obtain ⟨u, rfl, h1⟩ := rps1 rs
    unfold Rp at r h1
    split at post
    · rename_i hc
      simp only [Bool.and_eq_true, Bool.not_eq_true', decide_eq_true_eq] at hc
      refine ⟨_, _, r, by rw [h1], by rw [S_len]; exact hc.1, by rw [S_len]; exact lim_le hc.2, fun p hp => ?_⟩
      refine post.new R hp fun g => ?_
      unfold Rp
      refine ⟨p, _, rfl, upd_same, .cons ?_ (.cons ?_ (.cons ?_ .nil))⟩ <;> (unfold Rp; rw [S_un])
    · exact post.elim
  · exact post.elim
def mRepl : DM
  | .str a, [.str b, .str c], s => .stuck
  | _, _, _ => .stuck
def strsOf : List D → Option (List (List Nat))
  | [] => some []
  | .str x :: r => (strsOf r).map (x :: ·)
  | _ => none
theorem strs_ok {F : Hp} {ι : List Addr} : ∀ {ds : List D} {vs : List V} {ys : List (List Nat)}, Rps T F ι ds vs → strsOf ds = some ys → vs = (ys.map S).map V.str
  | [], vs, ys, r, e => by unfold Rps at r; subst r; cases e; rfl
  | d :: ds, vs, ys, r, e => by
    unfold Rps at r
    obtain ⟨v, us, rfl, h1, h2⟩ := r
    cases d with
    | str x =>
      have e' : (strsOf ds).map (x :: ·) = some ys := e
      cases q : strsOf ds with
      | none => rw [q] at e'; cases e'
      | some cs =>
        rw [q] at e'
        cases e'
        unfold Rp at h1
        rw [h1, strs_ok h2 q]
        rfl
    | _ => cases e
def mJoin : DM
  | .str a, [x], s => match (lqOf s x).or (tpOf x) with
    | some xs => match strsOf xs with
      | some ys => if (ys.map List.length).sum + ys.length * a.length ≤ lim then .ok (.str (un (Txt.join (S a) (ys.map S)))) s else .stuck
      | none => .stuck
    | none => .stuck
  | _, _, _ => .stuck
theorem dm_join : DenM T (fun x xs H Q => ∃ a p, ∃ ys : List Str, x = .str a ∧ xs = [.ref p] ∧ (SqL T.K H p (ys.map V.str) ∨ SqT T.K H p (ys.map V.str)) ∧
    (ys.map (·.length)).sum + ys.length * a.length ≤ 16777216 ∧ Q (.str (Txt.join a ys)) H) mJoin := by
  intro d ds v vs H P ι F s Q E R r rs post
  unfold mJoin at post
  split at post
  · obtain ⟨u, rfl, h1⟩ := rps1 rs
    unfold Rp at r
    split at post
    · rename_i xs h
      split at post
      · rename_i ys hy
        split at post
        · rename_i hl
          obtain ⟨a, us, rfl, h2, h3⟩ := lqtp_of R h1 h
          rw [strs_ok h3 hy] at h2
          refine ⟨_, a, ys.map S, r, rfl, h2, ?_, post.here R (by unfold Rp; rw [S_un])⟩
          have e1 : ((ys.map S).map (·.length)) = ys.map List.length := by
            rw [List.map_map]
            exact List.map_congr_left fun y _ => S_len y
          rw [e1, List.length_map, S_len]
          exact Nat.le_trans hl (by unfold lim; decide)
        · exact post.elim
      · exact post.elim
    · exact post.elim
  · exact post.elim
theorem rps_strs {F : Hp} {ι : List Addr} : ∀ (ys : List Str), Rps T F ι (ys.map fun y => D.str (un y)) (ys.map V.str)
  | [] => .nil
  | y :: ys => .cons (by unfold Rp; rw [S_un]) (rps_strs ys)
def mSplit : DM
  | .str a, [.str b], s => if (!(b.length == 0) && decide (a.length + 2 ≤ lim)) = true then .ok (.lst ((Txt.split (S a) (S b)).map fun y => D.str (un y))) s else .stuck
  | .str a, [], s => if a.length + 2 ≤ lim then .ok (.lst ((Txt.words (S a)).map fun y => D.str (un y))) s else .stuck
  | _, _, _ => .stuck
theorem new_strs {P : Hp} {ι : List Addr} {F : Hp} {s : Sto} {H : Hp} {Q : VK} {E : Nat → Hp → Prop} {ys : List Str} (R : RelH T P ι F s H) (post : Post T P (Rp T) Q E F ι (.ok (.lst (ys.map fun y => D.str (un y))) s)) : rNewStrs ys H Q := fun p hp => by
  refine post.new R hp fun g => ?_
  unfold Rp
  exact ⟨p, _, rfl, upd_same, rps_strs ys⟩
theorem dm_split : DenM T (fun x xs H Q => ∃ a b, x = .str a ∧ xs = [.str b] ∧ (b.length == 0) = false ∧ a.length + 2 ≤ sizeLine ∧ rNewStrs (Txt.split a b) H Q) (fun x ds s => match ds with | [] => .stuck | _ => mSplit x ds s) := by
  intro d ds v vs H P ι F s Q E R r rs post
  dsimp only at post
  split at post
  · exact post.elim
  · unfold mSplit at post
    split at post
    · obtain ⟨u, rfl, h1⟩ := rps1 rs
      unfold Rp at r h1
      split at post
      · rename_i hc
        simp only [Bool.and_eq_true, Bool.not_eq_true', decide_eq_true_eq] at hc
        exact ⟨_, _, r, by rw [h1], by rw [S_len]; exact hc.1, by rw [S_len]; exact lim_le hc.2, new_strs R post⟩
      · exact post.elim
    · rename_i hne
      exact absurd rfl hne
    · exact post.elim
theorem dm_words : DenM T (fun x xs H Q => ∃ a, x = .str a ∧ xs = [] ∧ a.length + 2 ≤ sizeLine ∧ rNewStrs (Txt.words a) H Q) (fun x ds s => match ds with | [] => mSplit x [] s | _ => .stuck) := by
  intro d ds v vs H P ι F s Q E R r rs post
  dsimp only at post
  split at post
  · unfold mSplit at post
    split at post
    · rename_i h
      cases h
    · unfold Rps at rs
      unfold Rp at r
      split at post
      · rename_i hc
        exact ⟨_, r, rs, by rw [S_len]; exact lim_le hc, new_strs R post⟩
      · exact post.elim
    · exact post.elim
  · exact post.elim
def mStrip : DM
  | .str a, [], s => if a.length ≤ lim then .ok (.str (un (Txt.strip (S a)))) s else .stuck
  | _, _, _ => .stuck
theorem dm_strip : DenM T (fun x xs H Q => ∃ a, x = .str a ∧ xs = [] ∧ a.length ≤ sizeLine ∧ Q (.str (Txt.strip a)) H) mStrip := by
  intro d ds v vs H P ι F s Q E R r rs post
  unfold mStrip at post
  split at post
  · unfold Rps at rs
    unfold Rp at r
    split at post
    · rename_i hc
      exact ⟨_, r, rs, by rw [S_len]; exact lim_le hc, post.here R (by unfold Rp; rw [S_un])⟩
    · exact post.elim
  · exact post.elim
/-! ## int, str, divmod -/
def bInt : DB
  | [.int i], s => .ok (.int i) s
  | [.bl b], s => .ok (.int (if b then 1 else 0)) s
  | [.str z], s => match PySem.intText? (S z) with
    | some n => if z.length ≤ 640 then .ok (.int n) s else .stuck
    | none => .stuck
  | _, _ => .stuck
def rIntA : List V → Hp → VK → Prop := fun xs H Q => ((∃ i, xs = [.int i] ∧ Q (.int i) H) ∨ ∃ k, xs = [.bl k] ∧ Q (.int (if k then 1 else 0)) H) ∨ (∃ a n, xs = [.str a] ∧ PySem.intText? a = some n ∧ a.length ≤ 640 ∧ Q (.int n) H)
theorem call_intA {X : Cx} : CallR X (.type "int") rIntA := CallR.or call_int1 call_int_str
theorem db_int : DenB T rIntA bInt := by
  intro ds vs H P ι F s Q E R r post
  unfold bInt at post
  split at post
  · obtain ⟨v, rfl, h1⟩ := rps1 r
    unfold Rp at h1
    exact .inl (.inl ⟨_, by rw [h1], post.here R (by unfold Rp; rfl)⟩)
  · obtain ⟨v, rfl, h1⟩ := rps1 r
    unfold Rp at h1
    exact .inl (.inr ⟨_, by rw [h1], post.here R (by unfold Rp; rfl)⟩)
  · obtain ⟨v, rfl, h1⟩ := rps1 r
    unfold Rp at h1
    split at post
    · rename_i n hn
      split at post
      · rename_i hl
        exact .inr ⟨_, _, by rw [h1], hn, by rw [S_len]; exact hl, post.here R (by unfold Rp; rfl)⟩
      · exact post.elim
    · exact post.elim
  · exact post.elim
def strI (i : Int) : List Nat := un (toString i : Str)
def bStr : DB
  | [.int i], s => if i.natAbs.log2 < 1920 then .ok (.str (strI i)) s else .stuck
  | _, _ => .stuck
theorem db_str : DenB T (fun xs H Q => ∃ i, xs = [.int i] ∧ i.natAbs.log2 < 1920 ∧ Q (.str (toString i)) H) bStr := by
  intro ds vs H P ι F s Q E R r post
  unfold bStr at post
  split at post
  · obtain ⟨v, rfl, h1⟩ := rps1 r
    unfold Rp at h1
    split at post
    · rename_i hl
      exact ⟨_, by rw [h1], hl, post.here R (by unfold Rp strI; rw [S_un])⟩
    · exact post.elim
  · exact post.elim
def bDivmod : DB
  | [.int i, .int j], s => if (decide (0 < j) && decide (j < 1073741824)) = true then .ok (.tup [.int (i / j), .int (i % j)]) s else .stuck
  | _, _ => .stuck
theorem db_divmod : DenB T (fun xs H Q => ∃ i j, xs = [.int i, .int j] ∧ CDiv i j ∧ ∀ p, H p = none → Q (.ref p) (upd H p (.tup [.int (i / j), .int (i % j)]))) bDivmod := by
  intro ds vs H P ι F s Q E R r post
  unfold bDivmod at post
  split at post
  · obtain ⟨v, u, rfl, h1, h2⟩ := rps2 r
    unfold Rp at h1 h2
    split at post
    · rename_i hc
      simp only [Bool.and_eq_true, decide_eq_true_eq] at hc
      refine ⟨_, _, by rw [h1, h2], hc, fun p hp => ?_⟩
      refine post.new R hp fun g => ?_
      unfold Rp
      exact ⟨p, _, rfl, upd_same, .cons (by unfold Rp; rfl) (.cons (by unfold Rp; rfl) .nil)⟩
    · exact post.elim
  · exact post.elim
/-! ## over a text -/
theorem walks_str {F : Hp} {ι : List Addr} (z : List Nat) : Walks T (Its (S z)) (z.map fun c => D.str [c]) F ι := by
  have w := walk_str (z := S z)
  unfold Walks
  have e0 : (S z).cps.size = z.length := by simp [S]
  rw [e0] at w
  rw [List.length_map]
  refine w.mono (fun H hF => trivial) fun i H x H' hi hF y => ?_
  obtain ⟨e1, c, e2, e3⟩ := y
  have e4 : z[i]? = some c := by simpa [S] using e2
  exact ⟨.str [c], by rw [List.getElem?_map, e4]; rfl, .inl ⟨e1, by unfold Rp; rw [e3]; rfl⟩⟩
/-- a list, a tuple, a text that stays -/
def itAny (f : DE) : DIt := fun δ s => (f δ s).bind fun x s1 => match x with
  | .lst xs => .ok xs s1
  | .scr ns => .ok (ns.map D.int) s1
  | .tup xs => .ok xs s1
  | .str z => .ok (z.map fun c => D.str [c]) s1
  | _ => .stuck
theorem den_iS {W : WX} {t : TE} {f : DE} (h : DenG T (Rp T) W t f) {σ : L2.St} {H P : Hp} {ι : List Addr} {F : Hp} {δ : Env} {s : Sto} {Q : It → Hp → Prop} (R : RelH T P ι F s H) (E : REnv T F ι δ σ)
    (post : Post T P (fun F ι ds J => Walks T J ds F ι) Q (fun c H' => W (.ref (T.ca c)) none σ H') F ι ((f δ s).bind fun x s1 => match x with
      | .str z => .ok (z.map fun c => D.str [c]) s1
      | _ => .stuck)) : iStr t σ H Q := by
  show t σ H _
  refine den_then h R E post fun x y H1 ι1 F1 s1 g R1 E1 r1 post1 => ?_
  cases x with
  | str z =>
    unfold Rp at r1
    exact ⟨S z, r1, post1.here R1 (walks_str z)⟩
  | _ => exact post1.elim
theorem i_any {X : Cx} {tg e : Expr} {f : DE} (h : PDe T X e f) (hK : X.K = T.K := by rfl) : PDi T X tg e (itAny f) := fun pn xe W tk => by
  obtain ⟨t1, p1, d1⟩ := h pn xe W tk
  have hK' : (X.tr pn xe).K = T.K := hK
  refine ⟨_, PI.or (PI.or (pi_list p1) (pi_tup p1)) (pi_str p1), fun σ H P ι F δ s Q R E post => ?_⟩
  rw [hK']
  unfold itAny at post
  cases e : f δ s with
  | ok x s1 =>
    rw [e] at post
    cases x with
    | lst xs => exact .inl (.inl (den_iL d1 R E (by rw [e]; exact post)))
    | scr ns => exact .inl (.inl (den_iL d1 R E (by rw [e]; exact post)))
    | tup xs => exact .inl (.inr (den_iT d1 R E (by rw [e]; exact post)))
    | str z => exact .inr (den_iS d1 R E (by rw [e]; exact post))
    | _ => exact post.elim
  | exc c s1 => rw [e] at post; exact .inl (.inl (den_iL d1 R E (by rw [e]; exact post)))
  | stuck => rw [e] at post; exact post.elim
/-! ## in, of lists, tuples and texts -/
def oInA (neg : Bool) : DOp
  | .str [c], .str z, s => .ok (.bl (neg != decide (c ∈ z))) s
  | x, y, s => oIn neg x y s
theorem do_inA : DenOp T (orR rInS (rIn T.K false)) (oInA false) := by
  intro x y dx dy H P ι F s Q E R rx ry post
  unfold oInA at post
  split at post
  · exact .inl (do_inS x y _ _ H P ι F s Q E R rx ry post)
  · exact .inr (do_in x y _ _ H P ι F s Q E R rx ry post)
theorem do_notInA : DenOp T (orR rNotInS (rIn T.K true)) (oInA true) := by
  intro x y dx dy H P ι F s Q E R rx ry post
  unfold oInA at post
  split at post
  · exact .inl (do_notInS x y _ _ H P ι F s Q E R rx ry post)
  · exact .inr (do_in x y _ _ H P ι F s Q E R rx ry post)
theorem op_inA {X : Cx} : OpR X (compareOp .In) (orR rInS (rIn X.K false)) := OpR.or op_in_sign op_in_seq
theorem op_notInA {X : Cx} : OpR X (compareOp .NotIn) (orR rNotInS (rIn X.K true)) := OpR.or op_notIn_sign op_notIn_seq
/-! ## f-strings of texts and whole numbers -/
def dFmt (f : DE) : DE := fun δ s => (f δ s).bind fun x s1 => match x with
  | .str z => if z.length ≤ lim then .ok (.str z) s1 else .stuck
  | .int i => if i.natAbs.log2 < 1920 then .ok (.str (strI i)) s1 else .stuck
  | _ => .stuck
def dJs : List DE → List Nat → DE
  | [], acc, _, s => .ok (.str acc) s
  | f :: fs, acc, δ, s => (f δ s).bind fun x s1 => match x with
    | .str z => if (acc ++ z).length ≤ lim then dJs fs (acc ++ z) δ s1 else .stuck
    | _ => .stuck
section
variable {X : Cx}
theorem d_fmt {e : Expr} {pos : Pos} {f : DE} (h : PDe T X e f) : PDe T X (.FormattedValue e (-1) none pos) (dFmt f) := fun pn xe W tk => by
  obtain ⟨t1, p1, d1⟩ := h pn xe W tk
  refine ⟨_, pe_fmt p1, fun σ H P ι F δ s Q R E post => ?_⟩
  show t1 σ H _
  refine den_then d1 R E post fun x y H1 ι1 F1 s1 g1 R1 E1 r1 post1 => ?_
  split at post1
  · split at post1
    · rename_i hl
      unfold Rp at r1
      exact .inl ⟨_, r1, by rw [S_len]; exact lim_le hl, post1.here R1 (by unfold Rp; rfl)⟩
    · exact post1.elim
  · split at post1
    · rename_i hl
      unfold Rp at r1
      exact .inr ⟨_, r1, hl, post1.here R1 (by unfold Rp strI; rw [S_un])⟩
    · exact post1.elim
  · exact post1.elim
inductive PDj (T : Tb) (X : Cx) : List Expr → List DE → Prop where
  | nil : PDj T X [] []
  | cons {e : Expr} {f : DE} {es : List Expr} {fs : List DE} (h : PDe T X e f) (r : PDj T X es fs) : PDj T X (e :: es) (f :: fs)
def DenJ (T : Tb) (W : WX) (ts : List TE) (fs : List DE) : Prop := ∀ acc σ H P ι F δ s (Q : V → Hp → Prop), RelH T P ι F s H → REnv T F ι δ σ → Post T P (Rp T) Q (fun c H' => W (.ref (T.ca c)) none σ H') F ι (dJs fs acc δ s) → tJs ts (S acc) σ H fun out H' => Q (.str out) H'
theorem pj_of {es : List Expr} {fs : List DE} (h : PDj T X es fs) : ∀ pn xe W, Takes (X.tr pn xe) W → ∃ ts, PJ (X.tr pn xe) es ts ∧ DenJ T W ts fs := by
  induction h with
  | nil => exact fun pn xe W tk => ⟨_, .nil, fun acc σ H P ι F δ s Q R E post => post.here R (by unfold Rp; rfl)⟩
  | cons h r ih =>
    intro pn xe W tk
    obtain ⟨t1, p1, d1⟩ := h pn xe W tk
    obtain ⟨ts, p2, d2⟩ := ih pn xe W tk
    refine ⟨_, .cons p1 p2, fun acc σ H P ι F δ s Q R E post => ?_⟩
    unfold dJs at post
    show t1 σ H _
    refine den_then d1 R E post fun x y H1 ι1 F1 s1 g1 R1 E1 r1 post1 => ?_
    split at post1
    · split at post1
      · rename_i z hl
        unfold Rp at r1
        refine ⟨_, r1, by rw [S_cat, S_len]; exact lim_le hl, ?_⟩
        rw [S_cat]
        exact d2 _ _ _ _ _ _ _ _ _ R1 E1 post1
      · exact post1.elim
    · exact post1.elim
theorem d_joined {v1 v2 : Expr} {rest : List Expr} {pos : Pos} {fs : List DE} (h : PDj T X (v1 :: v2 :: rest) fs) : PDe T X (.JoinedStr (v1 :: v2 :: rest) pos) (dJs fs []) := fun pn xe W tk => by
  obtain ⟨ts, p, d⟩ := pj_of h pn xe W tk
  refine ⟨_, pe_joined p, fun σ H P ι F δ s Q R E post => ?_⟩
  exact d [] _ _ _ _ _ _ _ _ R E post
theorem d_joined1 {e : Expr} {pos : Pos} {f : DE} (h : PDe T X e f) : PDe T X (.JoinedStr [e] pos) f := fun pn xe W tk => by
  obtain ⟨t1, p1, d1⟩ := h pn xe W tk
  exact ⟨_, pe_joined1 p1, d1⟩
end
end
end Mp
/-! # MpI -/
namespace Mp
open PySem PySem.Spec L2
/-! ## text.replace of written texts, behind a first item that gives out a token -/
/-- a token is out behind it -/
def PEk (X : Cx) (e : Expr) (t : TE) : Prop := ∀ (pins : List (Addr × Obj)) (s : Shared) (σ : L2.St) (H : Hp) (Q : VK), Inv X pins σ H s → t σ H Q → wpAny (model X.prog X.w) X.A (eval e X.env) (fun v s1 => 1 ≤ s1.toks ∧ EP X pins σ Q v s1) X.xe s
theorem pek_str {X : Cx} {x : Str} {j : Nat} {pos : Pos} : PEk X (.Constant (.str x) j pos) (tC (.str x)) := fun pins s σ H Q I h => Calls.Constant_str ⟨by show 1 ≤ s.toks + 1; omega, .str x, H, I.tok _, ⟨_, rfl⟩, h⟩
theorem pek_op {X : Cx} {a b : Expr} {op : Operator} {r : R2} {ta tb : TE} {pos : Pos} (ho : OpR X (binaryOp op) r) (ha : PEk X a ta) (hb : PE X b tb) : PEk X (.BinOp a op b pos) (tOp r ta tb) := by
  intro pins s σ H Q I h
  refine wpAny_BinOp (thn (ha pins s σ H _ I h) fun v s1 q => ?_)
  obtain ⟨h1, x, H1, I1, r1, q1⟩ := q
  refine wpAny_mono (PySem.wpAny_toks (hb.run pins s1 σ H1 _ I1 q1)) (fun u s2 q => ?_) fun _ _ z => z.2
  obtain ⟨hk, y, H2, I2, r2, q2⟩ := q
  refine wpAny_mono (PySem.wpAny_toks (ho pins s2 σ H2 x y v u Q I2 r1 r2 q2)) (fun w s3 q => ?_) fun _ _ z => z.2
  exact ⟨Nat.le_trans h1 (Nat.le_trans hk q.1), q.2⟩
theorem pa_tok {X : Cx} {e : Expr} {es : List Expr} {te : TE} {ta : TA} (ha : PEk X e te) (hr : PAT X es ta) (hs : starEach (e :: es) X.env = (false, eval e X.env) :: starEach es X.env := by rfl) : PA X (e :: es) (tCons te ta) := by
  refine ⟨fun pos pins s σ H Q I h => ?_⟩
  rw [hs]
  show wpAny _ _ (spliced ((false, eval e X.env) :: backTo pos (starEach es X.env))) _ _ s
  refine Calls.spliced_cons (thn (ha pins s σ H _ I h) fun v s1 q => ?_)
  obtain ⟨h0, x, H1, I1, r1, q1⟩ := q
  exact thn (hr pos pins s1 σ H1 _ h0 I1 q1) fun us s2 ⟨xs, H2, I2, r2, q2⟩ => ⟨x :: xs, H2, I2, .cons r1 r2, q2⟩
def PDk (T : Tb) (X : Cx) (e : Expr) (f : DE) : Prop := ∀ pn xe W, Takes (X.tr pn xe) W → ∃ t, PEk (X.tr pn xe) e t ∧ DenG T (Rp T) W t f
def PDeT (T : Tb) (X : Cx) (e : Expr) (f : DE) : Prop := ∀ pn xe W, Takes (X.tr pn xe) W → ∃ t, PET (X.tr pn xe) e t ∧ DenG T (Rp T) W t f
def PDaT (T : Tb) (X : Cx) (es : List Expr) (f : DA) : Prop := ∀ pn xe W, Takes (X.tr pn xe) W → ∃ t, PAT (X.tr pn xe) es t ∧ DenG T (RpsN T es.length) W t f
def dRepl (y z : Str) (f : DE) : DE := fun δ s => (f δ s).bind fun x s1 => match x with
  | .str a => if a.length + (a.length + 1) * z.length ≤ lim then .ok (.str (un (Txt.replace (S a) y z))) s1 else .stuck
  | _ => .stuck
section
variable {T : Tb} {X : Cx}
theorem k_str {x : Str} {j pos} (cs : List Nat) (h : x = S cs) : PDk T X (.Constant (.str x) j pos) (dC (.str cs)) := fun pn xe W _ => ⟨_, pek_str, den_c fun _ _ => by unfold Rp; rw [h]⟩
theorem k_op {a b : Expr} {pos : Pos} {op : Operator} {r : R2} {o : DOp} {fa fb : DE} (hr : ∀ pn xe, OpR (X.tr pn xe) (binaryOp op) r) (ho : DenOp T r o) (ha : PDk T X a fa) (hb : PDe T X b fb) : PDk T X (.BinOp a op b pos) (dOp o fa fb) := fun pn xe W tk => by
  obtain ⟨t1, p1, d1⟩ := ha pn xe W tk
  obtain ⟨t2, p2, d2⟩ := hb pn xe W tk
  exact ⟨_, pek_op (hr pn xe) p1 p2, den_op ho d1 d2⟩
theorem eT_of {e : Expr} {f : DE} (h : PDe T X e f) : PDeT T X e f := fun pn xe W tk => by
  obtain ⟨t1, p1, d1⟩ := h pn xe W tk
  exact ⟨t1, CwR.PET.of p1, d1⟩
theorem eT_repl {o : Expr} {y z : Str} {j k : Nat} {c0 c1 apos pos : Pos} {f : DE} (ho : PDe T X o f) (hyz : (y == z) = false := by decide)
    (hst : starEach [.Constant (.str y) j c0, .Constant (.str z) k c1] X.env = [(false, eval (.Constant (.str y) j c0) X.env), (false, eval (.Constant (.str z) k c1) X.env)] := by rfl)
    (hbase : attributeBase o "replace" X.env (eval o X.env) = eval o X.env := by rfl) (hline : (apos.endLine == pos.line) = true := by rfl) :
    PDeT T X (.Call (.Attribute o "replace" apos) [.Constant (.str y) j c0, .Constant (.str z) k c1] [] pos) (dRepl y z f) := fun pn xe W tk => by
  obtain ⟨t1, p1, d1⟩ := ho pn xe W tk
  refine ⟨_, CwR.pet_replC (X := X.tr pn xe) p1 hyz hst hbase hline, fun σ H P ι F δ s Q R E post => ?_⟩
  show t1 σ H _
  refine den_then d1 R E post fun x y1 H1 ι1 F1 s1 g1 R1 E1 r1 post1 => ?_
  split at post1
  · split at post1
    · rename_i hl
      unfold Rp at r1
      exact ⟨_, r1, by rw [S_len]; exact Nat.le_trans hl (by unfold lim; decide), post1.here R1 (by unfold Rp; rw [S_un])⟩
    · exact post1.elim
  · exact post1.elim
theorem aT_nil : PDaT T X [] aNil := fun pn xe W _ => ⟨_, pat_nil, fun _ _ _ _ _ _ _ _ R _ post => post.here R ⟨.nil, rfl⟩⟩
theorem den_cons {W : WX} {n : Nat} {t1 : TE} {t2 : TA} {f : DE} {g : DA} (d1 : DenG T (Rp T) W t1 f) (d2 : DenG T (RpsN T n) W t2 g) : DenG T (RpsN T (n + 1)) W (tCons t1 t2) (aCons f g) := fun σ H P ι F δ s Q R E post => by
  show t1 σ H _
  refine den_then d1 R E post fun x y H1 ι1 F1 s1 g1 R1 E1 r1 post1 => ?_
  refine den_then d2 R1 E1 post1 fun xs ys H2 ι2 F2 s2 g2 R2 E2 r2 post2 => ?_
  exact post2.here R2 ⟨.cons (r1.mono g2) r2.1, congrArg Nat.succ r2.2⟩
theorem aT_cons {e : Expr} {es : List Expr} {f : DE} {g : DA} (he : PDeT T X e f) (hr : PDaT T X es g) (hs : starEach (e :: es) X.env = (false, eval e X.env) :: starEach es X.env := by rfl) : PDaT T X (e :: es) (aCons f g) := fun pn xe W tk => by
  obtain ⟨t1, p1, d1⟩ := he pn xe W tk
  obtain ⟨t2, p2, d2⟩ := hr pn xe W tk
  exact ⟨_, pat_cons (X := X.tr pn xe) p1 p2 hs, den_cons d1 d2⟩
theorem a_tok {e : Expr} {es : List Expr} {f : DE} {g : DA} (he : PDk T X e f) (hr : PDaT T X es g) (hs : starEach (e :: es) X.env = (false, eval e X.env) :: starEach es X.env := by rfl) : PDa T X (e :: es) (aCons f g) := fun pn xe W tk => by
  obtain ⟨t1, p1, d1⟩ := he pn xe W tk
  obtain ⟨t2, p2, d2⟩ := hr pn xe W tk
  exact ⟨_, pa_tok (X := X.tr pn xe) p1 p2 hs, den_cons d1 d2⟩
end
/-! ## a list, so many times -/
def oMulA : DOp
  | .int a, .int b, s => if cMul a b = true then .ok (.int (a * b)) s else .stuck
  | x, .int k, s => match lsOf s x with
    | some xs => if xs.length * k.toNat ≤ lim ∧ -(2 ^ 62) ≤ k ∧ k < 2 ^ 62 then .ok (.lst (List.replicate k.toNat xs).flatten) s else .stuck
    | none => .stuck
  | _, _, _ => .stuck
def rMulA : R2 := orR (rI CMul fun i j => .int (i * j)) rRep
theorem op_mulA {X : Cx} : OpR X (binaryOp .Mult) rMulA := OpR.or op_mul op_rep
section
variable {T : Tb}
theorem rps_rep {F : Hp} {ι : List Addr} {xs : List D} {vs : List V} (r : Rps T F ι xs vs) : ∀ k : Nat, Rps T F ι (List.replicate k xs).flatten (List.replicate k vs).flatten
  | 0 => .nil
  | k + 1 => by
    rw [List.replicate_succ, List.replicate_succ, List.flatten_cons, List.flatten_cons]
    exact r.app (rps_rep r k)
theorem do_mulA : DenOp T rMulA oMulA := by
  intro x y dx dy H P ι F s Q E R rx ry post
  unfold oMulA at post
  split at post
  · split at post
    · rename_i hc
      unfold Rp at rx ry
      refine .inl ⟨_, _, rx, ry, ?_, post.here R (by unfold Rp; rfl)⟩
      unfold cMul at hc
      unfold CMul
      simp only [Bool.or_eq_true, Bool.and_eq_true, decide_eq_true_eq] at hc
      exact hc
    · exact post.elim
  · split at post
    · rename_i xs hx
      split at post
      · rename_i hl
        obtain ⟨p, vs, rfl, e1, e2⟩ := ls_of R rx hx
        unfold Rp at ry
        refine .inr ⟨p, _, vs, rfl, ry, e1, by omega, by omega, by rw [← e2.len]; exact lim_le hl.1, fun l hp => ?_⟩
        refine post.new R hp fun g => ?_
        unfold Rp
        exact ⟨l, _, rfl, upd_same, (rps_rep e2 _).mono g⟩
      · exact post.elim
    · exact post.elim
  · exact post.elim
end
end Mp
/-! # MpS -/
namespace Mp
open PySem PySem.Spec L2
/-! ## rows for computing with the deep program -/
section
variable {α β : Type}
@[simp] theorem bind_ok {a : α} {s : Sto} {k : α → Sto → Res β} : (Res.ok a s).bind k = k a s := rfl
@[simp] theorem bind_exc {c : Nat} {s : Sto} {k : α → Sto → Res β} : (Res.exc c s : Res α).bind k = .exc c s := rfl
@[simp] theorem bind_stuck {k : α → Sto → Res β} : (Res.stuck : Res α).bind k = .stuck := rfl
@[simp] theorem out_ok {δ : Env} {a : α} {s : Sto} {k : α → Sto → Out} : (Res.ok a s).out δ k = k a s := rfl
@[simp] theorem out_exc {δ : Env} {c : Nat} {s : Sto} {k : α → Sto → Out} : (Res.exc c s : Res α).out δ k = .ex c δ s := rfl
@[simp] theorem out_stuck {δ : Env} {k : α → Sto → Out} : (Res.stuck : Res α).out δ k = .stuck := rfl
end
section
variable {δ : Env} {s : Sto}
@[simp] theorem then_nx {k : DS} : (Out.nx δ s).andThen k = k δ s := rfl
@[simp] theorem then_rt {k : DS} {d : D} : (Out.rt d s).andThen k = .rt d s := rfl
@[simp] theorem then_bk {k : DS} : (Out.bk δ s).andThen k = .bk δ s := rfl
@[simp] theorem then_ct {k : DS} : (Out.ct δ s).andThen k = .ct δ s := rfl
@[simp] theorem then_ex {k : DS} {c : Nat} : (Out.ex c δ s).andThen k = .ex c δ s := rfl
@[simp] theorem then_stuck {k : DS} : Out.stuck.andThen k = .stuck := rfl
@[simp] theorem cut_same {d : D} : cut s.length d s = .ok d s := by unfold cut; rw [if_pos rfl]
@[simp] theorem cutX_same {c : Nat} : cutX s.length c s = .exc c s := by unfold cutX; rw [if_pos rfl]
@[simp] theorem cut_len {n : Nat} {d : D} (h : s.length = n) : cut n d s = .ok d s := by subst h; exact cut_same
theorem cutX_len {n : Nat} {c : Nat} (h : s.length = n) : cutX n c s = .exc c s := by subst h; exact cutX_same
@[simp] theorem cut_nil {d : D} : cut 0 d [] = .ok d [] := rfl
@[simp] theorem cutX_nil {c : Nat} : cutX 0 c [] = .exc c [] := rfl
@[simp] theorem fin_rt {n : Nat} {d : D} : finO n (.rt d s) = cut n d s := rfl
@[simp] theorem fin_nx {n : Nat} : finO n (.nx δ s) = cut n .non s := rfl
@[simp] theorem fin_ex {n c : Nat} : finO n (.ex c δ s) = cutX n c s := rfl
@[simp] theorem fin_stuck {n : Nat} : finO n .stuck = .stuck := rfl
@[simp] theorem dC_eq {d : D} : dC d δ s = .ok d s := rfl
@[simp] theorem dVar_eq {i : Nat} : dVar i δ s = match δ[i]? with
  | some (some d) => .ok d s
  | _ => .stuck := rfl
@[simp] theorem aNil_eq : aNil δ s = .ok [] s := rfl
@[simp] theorem aCons_eq {f : DE} {g : DA} : aCons f g δ s = (f δ s).bind fun x s1 => (g δ s1).bind fun xs s2 => .ok (x :: xs) s2 := rfl
@[simp] theorem dOp_eq {op : DOp} {f g : DE} : dOp op f g δ s = (f δ s).bind fun x s1 => (g δ s1).bind fun y s2 => op x y s2 := rfl
@[simp] theorem dCall_eq {φ : List D → Sto → Res D} {f : DA} : dCall φ f δ s = (f δ s).bind fun ds s1 => φ ds s1 := rfl
@[simp] theorem dBi_eq {φ : DB} {f : DA} : dBi φ f δ s = (f δ s).bind fun ds s1 => φ ds s1 := rfl
@[simp] theorem sSeq_eq {f g : DS} : sSeq f g δ s = (f δ s).andThen g := rfl
@[simp] theorem sSet_eq {i : Nat} {f : DE} : sSet i f δ s = (f δ s).out δ fun d s1 => .nx (δ.set i (some d)) s1 := rfl
@[simp] theorem sRet_eq {f : DE} : sRet f δ s = (f δ s).out δ fun d s1 => .rt d s1 := rfl
@[simp] theorem sRetN_eq : sRetN δ s = .rt .non s := rfl
@[simp] theorem sPass_eq : sPass δ s = .nx δ s := rfl
@[simp] theorem sBrk_eq : sBrk δ s = .bk δ s := rfl
@[simp] theorem sCt_eq : sCt δ s = .ct δ s := rfl
@[simp] theorem sDrop_eq {f : DE} : sDrop f δ s = (f δ s).out δ fun _ s1 => .nx δ s1 := rfl
@[simp] theorem sIf_eq {c : DT} {f g : DS} : sIf c f g δ s = (c δ s).out δ fun b s1 => if b = true then f δ s1 else g δ s1 := by
  unfold sIf
  cases c δ s with
  | ok b s1 => cases b <;> rfl
  | _ => rfl
@[simp] theorem tAnd_eq {f g : DT} : tAndD f g δ s = (f δ s).bind fun b s1 => if b = true then g δ s1 else .ok false s1 := by
  unfold tAndD
  cases f δ s with
  | ok b s1 => cases b <;> rfl
  | _ => rfl
@[simp] theorem tOr_eq {f g : DT} : tOrD f g δ s = (f δ s).bind fun b s1 => if b = true then .ok true s1 else g δ s1 := by
  unfold tOrD
  cases f δ s with
  | ok b s1 => cases b <;> rfl
  | _ => rfl
@[simp] theorem tNot_eq {f : DT} : tNotD f δ s = (f δ s).bind fun b s1 => .ok (!b) s1 := rfl
@[simp] theorem tst_eq {f : DE} : tst f δ s = (f δ s).bind fun x s1 => match x with
  | .bl b => .ok b s1
  | _ => .stuck := rfl
@[simp] theorem dIfE_eq {c : DT} {f g : DE} : dIfE c f g δ s = (c δ s).bind fun b s1 => if b = true then f δ s1 else g δ s1 := by
  unfold dIfE
  cases c δ s with
  | ok b s1 => cases b <;> rfl
  | _ => rfl
@[simp] theorem dAnd_eq {f g : DE} : dAndV f g δ s = (f δ s).bind fun x s1 => match x with
  | .bl true => g δ s1
  | .bl false => .ok (.bl false) s1
  | _ => .stuck := rfl
@[simp] theorem dOr_eq {f g : DE} : dOrV f g δ s = (f δ s).bind fun x s1 => match x with
  | .bl true => .ok (.bl true) s1
  | .bl false => g δ s1
  | _ => .stuck := rfl
@[simp] theorem dNot_eq {f : DE} : dNotV f δ s = (f δ s).bind fun x s1 => match x with
  | .bl b => .ok (.bl (!b)) s1
  | _ => .stuck := rfl
@[simp] theorem dChain_eq {op op' : DOp} {f g h : DE} : dChain op op' f g h δ s = (f δ s).bind fun x s1 => (g δ s1).bind fun y s2 => (op x y s2).bind fun z s3 => match z with
  | .bl true => (h δ s3).bind fun w s4 => op' y w s4
  | .bl false => .ok (.bl false) s3
  | _ => .stuck := rfl
@[simp] theorem dTup_eq {f : DA} : dTup f δ s = (f δ s).bind fun xs s1 => if xs.length ≤ lim then .ok (.tup xs) s1 else .stuck := rfl
@[simp] theorem dLst_eq {f : DA} : dLst f δ s = (f δ s).bind fun xs s1 => if xs.length ≤ lim then .ok (.lst xs) s1 else .stuck := rfl
@[simp] theorem dUn_eq {g : Int → Int} {f : DE} : dUn g f δ s = (f δ s).bind fun x s1 => match x with
  | .int i => .ok (.int (g i)) s1
  | _ => .stuck := rfl
@[simp] theorem dSl_eq {f : DE} {lo hi : DOI} : dSl f lo hi δ s = (f δ s).bind fun x s1 => (lo δ s1).bind fun l s2 => (hi δ s2).bind fun u s3 => oSl x l u s3 := rfl
theorem oSl_str {z : List Nat} {lo hi : Option Int} (h : z.length ≤ lim) : oSl (.str z) lo hi s = .ok (.str (cutL z lo hi)) s := if_pos h
@[simp] theorem pNone_eq : pNone δ s = .ok none s := rfl
@[simp] theorem pSome_eq {f : DE} : pSome f δ s = (f δ s).bind fun x s1 => match x with
  | .int i => .ok (some i) s1
  | _ => .stuck := rfl
@[simp] theorem tgN_eq {i : Nat} {d : D} : tgN i d δ = some (δ.set i (some d)) := rfl
@[simp] theorem tgT_eq {ts : List DTg} {xs : List D} : tgT ts (.tup xs) δ = tgs ts xs δ := rfl
@[simp] theorem tgs_nil : tgs [] [] δ = some δ := rfl
@[simp] theorem tgs_cons {t : DTg} {ts : List DTg} {d : D} {ds : List D} : tgs (t :: ts) (d :: ds) δ = (t d δ).bind fun δ1 => tgs ts ds δ1 := rfl
@[simp] theorem sAsg_eq {f : DE} {t : DTg} : sAsg f t δ s = (f δ s).out δ fun d s1 => match t d δ with
  | some δ1 => .nx δ1 s1
  | none => .stuck := rfl
/-! ### loops -/
@[simp] theorem sFor_eq {it : DIt} {t : DTg} {b : DS} : sFor it t b δ s = (it δ s).out δ fun ds s1 => forL t b ds δ s1 := rfl
@[simp] theorem forL_nil {t : DTg} {b : DS} : forL t b [] δ s = .nx δ s := rfl
theorem forL_cons {t : DTg} {b : DS} {d : D} {r : List D} : forL t b (d :: r) δ s = match t d δ with
  | none => .stuck
  | some δ1 => match b δ1 s with
    | .nx δ2 s2 => forL t b r δ2 s2
    | .ct δ2 s2 => forL t b r δ2 s2
    | .bk δ2 s2 => .nx δ2 s2
    | o => o := rfl
theorem forL_next {t : DTg} {b : DS} {d : D} {r : List D} {δ1 δ2 : Env} {s2 : Sto} (h : t d δ = some δ1) (k : b δ1 s = .nx δ2 s2) : forL t b (d :: r) δ s = forL t b r δ2 s2 := by
  rw [forL_cons, h]
  dsimp only
  rw [k]
theorem forL_stop {t : DTg} {b : DS} {d e : D} {r : List D} {δ1 : Env} {s2 : Sto} (h : t d δ = some δ1) (k : b δ1 s = .rt e s2) : forL t b (d :: r) δ s = .rt e s2 := by
  rw [forL_cons, h]
  dsimp only
  rw [k]
end
theorem forL_ok (I : Nat → Env → Sto → Prop) {t : DTg} {b : DS} : ∀ (ds : List D) (n : Nat), (∀ i d δ s, ds[i]? = some d → I (n + i) δ s → ∃ δ1 δ2 s2, t d δ = some δ1 ∧ (b δ1 s = .nx δ2 s2 ∨ b δ1 s = .ct δ2 s2) ∧ I (n + i + 1) δ2 s2) →
    ∀ (δ : Env) (s : Sto), I n δ s → ∃ δ' s', forL t b ds δ s = .nx δ' s' ∧ I (n + ds.length) δ' s'
  | [], n, _, δ, s, h => ⟨δ, s, rfl, h⟩
  | d :: r, n, turn, δ, s, h => by
    obtain ⟨δ1, δ2, s2, h1, h2, h3⟩ := turn 0 d δ s rfl h
    obtain ⟨δ', s', e, i⟩ := forL_ok I r (n + 1) (fun i d δ s hd hi => by
      have := turn (i + 1) d δ s (by simpa using hd) (by rw [show n + (i + 1) = n + 1 + i by omega]; exact hi)
      rw [show n + (i + 1) = n + 1 + i by omega] at this
      exact this) δ2 s2 h3
    refine ⟨δ', s', ?_, by rw [List.length_cons, show n + (r.length + 1) = n + 1 + r.length by omega]; exact i⟩
    rw [forL_cons, h1]
    dsimp only
    rcases h2 with h2 | h2 <;> rw [h2] <;> exact e
section
variable {δ : Env} {s : Sto}
@[simp] theorem sWh_eq {n : Nat} {c : DT} {b : DS} : sWh n c b δ s = whL c b n δ s := rfl
@[simp] theorem itSeq_eq {f : DE} : itSeq f δ s = (f δ s).bind fun x s1 => match x with
  | .lst xs => .ok xs s1
  | .scr ns => .ok (ns.map D.int) s1
  | .tup xs => .ok xs s1
  | _ => .stuck := by
  unfold itSeq
  cases f δ s with
  | ok x s1 => cases x <;> rfl
  | _ => rfl
@[simp] theorem itR1_eq {f : DA} : itR1 f δ s = (f δ s).bind fun xs s1 => match xs with
  | [.int n] => if small62 n = true then .ok (intsD 0 n.toNat) s1 else .stuck
  | _ => .stuck := rfl
@[simp] theorem itR2_eq {f : DA} : itR2 f δ s = (f δ s).bind fun xs s1 => match xs with
  | [.int a, .int b] => if (small62 a && small62 b) = true then .ok (intsD a (b - a).toNat) s1 else .stuck
  | _ => .stuck := rfl
@[simp] theorem itZip_eq {f : DA} : itZip f δ s = (f δ s).bind fun xs s1 => match xs with
  | [.lst a, .lst b] => .ok (zipD a b) s1
  | [.tup a, .tup b] => .ok (zipD a b) s1
  | _ => .stuck := rfl
@[simp] theorem dLc_eq {it : DIt} {t : DTg} {c : DT} {e : DE} {vs : List Nat} : dLc it t c e vs δ s = (it δ s).bind fun ds s1 => lcL t c e (wipeE δ vs) ds [] s1 := rfl
@[simp] theorem lcL_nil {t : DTg} {c : DT} {e : DE} {acc : List D} : lcL t c e δ [] acc s = .ok (.lst acc) s := rfl
theorem lcL_cons {t : DTg} {c : DT} {e : DE} {acc : List D} {d : D} {r : List D} : lcL t c e δ (d :: r) acc s = match t d δ with
  | none => .stuck
  | some δ1 => match c δ1 s with
    | .ok true s2 => match e δ1 s2 with
      | .ok y s3 => if acc.length < lim then lcL t c e δ r (acc ++ [y]) s3 else .stuck
      | _ => .stuck
    | .ok false s2 => lcL t c e δ r acc s2
    | _ => .stuck := rfl
@[simp] theorem cYes_eq : cYes δ s = .ok true s := rfl
@[simp] theorem wipeE_nil : wipeE δ [] = δ := rfl
@[simp] theorem wipeE_cons {v : Nat} {vs : List Nat} : wipeE δ (v :: vs) = (wipeE δ vs).set v none := rfl
/-! ### operators -/
@[simp] theorem oAdd_int {a b : Int} : oAdd (.int a) (.int b) s = .ok (.int (a + b)) s := rfl
@[simp] theorem oAdd_str {a b : List Nat} : oAdd (.str a) (.str b) s = if a.length + b.length ≤ lim then .ok (.str (a ++ b)) s else .stuck := rfl
@[simp] theorem oAdd_tup {a b : List D} : oAdd (.tup a) (.tup b) s = if a ≠ [] ∧ a.length + b.length ≤ lim then .ok (.tup (a ++ b)) s else .stuck := rfl
@[simp] theorem oAdd_lst {a b : List D} : oAdd (.lst a) (.lst b) s = if a.length + b.length ≤ lim then .ok (.lst (a ++ b)) s else .stuck := rfl
@[simp] theorem oInt_int {c : Int → Int → Bool} {g : Int → Int → Int} {a b : Int} : oInt c g (.int a) (.int b) s = if c a b = true then .ok (.int (g a b)) s else .stuck := rfl
@[simp] theorem oCmp_int {g : Int → Int → Bool} {a b : Int} : oCmp g (.int a) (.int b) s = .ok (.bl (g a b)) s := rfl
theorem oEq_sc {n b : Bool} {x y : D} (h : scD x y = some b) : oEqG n x y s = .ok (.bl (n != b)) s := by unfold oEqG; rw [h]
section
variable {n : Bool} {a b : Int} {x y : List Nat} {p q : Bool}
@[simp] theorem oEq_int : oEqG n (.int a) (.int b) s = .ok (.bl (n != (a == b))) s := rfl
@[simp] theorem oEq_str : oEqG n (.str x) (.str y) s = .ok (.bl (n != (x == y))) s := rfl
@[simp] theorem oEq_bl : oEqG n (.bl p) (.bl q) s = .ok (.bl (n != (p == q))) s := rfl
@[simp] theorem oEq_nn : oEqG n .non .non s = .ok (.bl (n != true)) s := rfl
@[simp] theorem oEq_ni : oEqG n .non (.int a) s = .ok (.bl (n != false)) s := rfl
@[simp] theorem oEq_ns : oEqG n .non (.str x) s = .ok (.bl (n != false)) s := rfl
@[simp] theorem oEq_nb : oEqG n .non (.bl p) s = .ok (.bl (n != false)) s := rfl
@[simp] theorem oEq_in : oEqG n (.int a) .non s = .ok (.bl (n != false)) s := rfl
@[simp] theorem oEq_sn : oEqG n (.str x) .non s = .ok (.bl (n != false)) s := rfl
@[simp] theorem oEq_bn : oEqG n (.bl p) .non s = .ok (.bl (n != false)) s := rfl
@[simp] theorem oEq_is : oEqG n (.int a) (.str x) s = .ok (.bl (n != false)) s := rfl
@[simp] theorem oEq_si : oEqG n (.str x) (.int a) s = .ok (.bl (n != false)) s := rfl
@[simp] theorem oEq_bs : oEqG n (.bl p) (.str x) s = .ok (.bl (n != false)) s := rfl
@[simp] theorem oEq_sb : oEqG n (.str x) (.bl p) s = .ok (.bl (n != false)) s := rfl
end
@[simp] theorem oIs_eq {n : Bool} {x : D} : oIs n x .non s = .ok (.bl (n != isNon x)) s := rfl
@[simp] theorem isNon_non : isNon .non = true := rfl
@[simp] theorem isNon_int {a : Int} : isNon (.int a) = false := rfl
@[simp] theorem isNon_str {a : List Nat} : isNon (.str a) = false := rfl
@[simp] theorem isNon_bl {a : Bool} : isNon (.bl a) = false := rfl
@[simp] theorem isNon_tup {a : List D} : isNon (.tup a) = false := rfl
@[simp] theorem isNon_lst {a : List D} : isNon (.lst a) = false := rfl
@[simp] theorem isNon_loc {a : Nat} : isNon (.loc a) = false := rfl
@[simp] theorem isNon_exc {a : Nat} : isNon (.exc a) = false := rfl
@[simp] theorem isNon_obj {a : Nat} {ns : List Nat} {vs : List D} : isNon (.obj a ns vs) = false := rfl
@[simp] theorem lqOf_lst {xs : List D} : lqOf s (.lst xs) = some xs := rfl
@[simp] theorem lqOf_scr {ns : List Int} : lqOf s (.scr ns) = some (ns.map D.int) := rfl
@[simp] theorem lqOf_tup {xs : List D} : lqOf s (.tup xs) = none := rfl
@[simp] theorem lsOf_lst {xs : List D} : lsOf s (.lst xs) = some xs := rfl
@[simp] theorem tpOf_tup {xs : List D} : tpOf (.tup xs) = some xs := rfl
@[simp] theorem oIx_lst {xs : List D} {i : Int} : oIx (.lst xs) (.int i) s = match atI xs i with
  | some d => .ok d s
  | none => .stuck := rfl
@[simp] theorem oIx_tup {xs : List D} {i : Int} : oIx (.tup xs) (.int i) s = match atI xs i with
  | some d => .ok d s
  | none => .stuck := rfl
@[simp] theorem oIx_scr {xs : List Int} {i : Int} : oIx (.scr xs) (.int i) s = match atI (xs.map D.int) i with
  | some d => .ok d s
  | none => .stuck := rfl
@[simp] theorem oIx_str {z : List Nat} {i : Int} : oIx (.str z) (.int i) s = if z.length ≤ lim then match atI z i with
    | some c => .ok (.str [c]) s
    | none => .stuck
    else .stuck := rfl
@[simp] theorem bLen_lst {xs : List D} : bLen [.lst xs] s = .ok (.int xs.length) s := rfl
@[simp] theorem bLen_tup {xs : List D} : bLen [.tup xs] s = .ok (.int xs.length) s := rfl
@[simp] theorem bLen_scr {xs : List Int} : bLen [.scr xs] s = .ok (.int xs.length) s := by unfold bLen; simp
@[simp] theorem bLen_str {z : List Nat} : bLen [.str z] s = if z.length ≤ lim then .ok (.int z.length) s else .stuck := rfl
@[simp] theorem b2I_eq {g : Int → Int → Int} {a b : Int} : b2I g [.int a, .int b] s = .ok (.int (g a b)) s := rfl
theorem lim_eq : lim = 1000000 := rfl
theorem cMul_l {i j : Int} (h : -18446744073709551616 < i ∧ i < 18446744073709551616) : cMul i j = true := by
  unfold cMul
  simp only [Bool.or_eq_true, Bool.and_eq_true, decide_eq_true_eq]
  left
  have e : (2 : Int) ^ 64 = 18446744073709551616 := by decide
  rw [e]
  exact h
theorem cMul_r {i j : Int} (h : -18446744073709551616 < j ∧ j < 18446744073709551616) : cMul i j = true := by
  unfold cMul
  simp only [Bool.or_eq_true, Bool.and_eq_true, decide_eq_true_eq]
  right
  have e : (2 : Int) ^ 64 = 18446744073709551616 := by decide
  rw [e]
  exact h
@[simp] theorem atI_natc {α : Type} {xs : List α} {i : Nat} : atI xs (i : Int) = xs[i]? := by
  unfold atI ixN
  by_cases h : i < xs.length
  · simp [h]
  · simp [h]
@[simp] theorem atI_lit {α : Type} {xs : List α} {i : Nat} : atI xs (no_index (OfNat.ofNat i)) = xs[i]? := atI_natc (i := i)
theorem atI_nat {α : Type} {xs : List α} {i : Nat} (h : i < xs.length) : atI xs (i : Int) = xs[i]? := by
  unfold atI ixN
  simp [h]
theorem atI_int {α : Type} {xs : List α} {i : Int} (h0 : 0 ≤ i) (h1 : i < xs.length) : atI xs i = xs[i.toNat]? := by
  obtain ⟨n, rfl⟩ := Int.eq_ofNat_of_zero_le h0
  exact atI_nat (by omega)
theorem atI_mem {α : Type} {xs : List α} {i : Int} (h0 : 0 ≤ i) (h1 : i < xs.length) : ∃ d, atI xs i = some d ∧ d ∈ xs := by
  rw [atI_int h0 h1]
  have h : i.toNat < xs.length := by omega
  exact ⟨xs[i.toNat], by simp [h], List.getElem_mem h⟩
theorem atI_ex {α : Type} {xs : List α} {i : Int} {Q : α → Prop} (h0 : 0 ≤ i) (h1 : i < xs.length) (h : ∀ d ∈ xs, Q d) : ∃ d, atI xs i = some d ∧ Q d :=
  let ⟨d, e, m⟩ := atI_mem h0 h1
  ⟨d, e, h d m⟩
theorem atI_cons0 {α : Type} {x : α} {xs : List α} : atI (x :: xs) (0 : Int) = some x := by
  rw [atI_int (by omega) (by simp)]
  rfl
end
/-! ### exceptions, cells, methods, texts -/
section
variable {δ : Env} {s : Sto}
@[simp] theorem sRaise_eq {c : Nat} : sRaise c δ s = .ex c δ s := rfl
theorem sTry_eq {anc : Nat → Nat → Option Bool} {c : Nat} {i : Option Nat} {f g : DS} : sTry anc c i f g δ s = match f δ s with
  | .ex k δ1 s1 => match anc k c with
    | some true => (g (setE i (some (.exc k)) δ1) s1).unset i
    | some false => .ex k δ1 s1
    | none => .stuck
  | o => o := rfl
theorem sTry_rt {anc : Nat → Nat → Option Bool} {c : Nat} {i : Option Nat} {f g : DS} {d : D} {s1 : Sto} (h : f δ s = .rt d s1) : sTry anc c i f g δ s = .rt d s1 := by rw [sTry_eq, h]
theorem sTry_nx {anc : Nat → Nat → Option Bool} {c : Nat} {i : Option Nat} {f g : DS} {δ1 : Env} {s1 : Sto} (h : f δ s = .nx δ1 s1) : sTry anc c i f g δ s = .nx δ1 s1 := by rw [sTry_eq, h]
theorem sTry_ex {anc : Nat → Nat → Option Bool} {c k : Nat} {i : Option Nat} {f g : DS} {δ1 : Env} {s1 : Sto} (h : f δ s = .ex k δ1 s1) (hk : anc k c = some true) : sTry anc c i f g δ s = (g (setE i (some (.exc k)) δ1) s1).unset i := by rw [sTry_eq, h]; dsimp only; rw [hk]
@[simp] theorem setE_some {i : Nat} {o : Option D} : setE (some i) o δ = δ.set i o := rfl
@[simp] theorem setE_none {o : Option D} : setE none o δ = δ := rfl
@[simp] theorem unset_nx {i : Option Nat} : (Out.nx δ s).unset i = .nx (setE i none δ) s := rfl
@[simp] theorem unset_rt {i : Option Nat} {d : D} : (Out.rt d s).unset i = .rt d s := rfl
@[simp] theorem unset_ct {i : Option Nat} : (Out.ct δ s).unset i = .ct (setE i none δ) s := rfl
@[simp] theorem dLstC_eq {f : DA} : dLstC f δ s = (f δ s).bind fun xs s1 => if xs.length ≤ lim then .ok (.loc s1.length) (s1 ++ [.lst xs]) else .stuck := rfl
@[simp] theorem sIxS_eq {f fo fi : DE} : sIxS f fo fi δ s = (f δ s).out δ fun d s1 => (fo δ s1).out δ fun o s2 => (fi δ s2).out δ fun i s3 => match setAt o i d s3 with
  | some s4 => .nx δ s4
  | none => .stuck := rfl
@[simp] theorem setAt_loc {n : Nat} {k : Int} {d : D} : setAt (.loc n) (.int k) d s = match s[n]? with
    | some (.lst xs) => match ixN xs.length k with
      | some j => some (s.set n (.lst (xs.set j d)))
      | none => none
    | _ => none := rfl
@[simp] theorem lqOf_loc {n : Nat} : lqOf s (.loc n) = match s[n]? with
    | some (.lst xs) => some xs
    | _ => none := rfl
@[simp] theorem lsOf_loc {n : Nat} : lsOf s (.loc n) = match s[n]? with
    | some (.lst xs) => some xs
    | _ => none := rfl
@[simp] theorem oIx_loc {n : Nat} {i : Int} : oIx (.loc n) (.int i) s = match (lqOf s (.loc n)).or none with
  | some xs => match atI xs i with
    | some d => .ok d s
    | none => .stuck
  | none => .stuck := rfl
@[simp] theorem dMt_eq {ty : String} {op : DM} {f : DE} {fa : DA} : dMt ty op f fa δ s = (f δ s).bind fun x s1 => if recvTy s1 x = some ty then (fa δ s1).bind fun xs s2 => op x xs s2 else .stuck := rfl
@[simp] theorem recvTy_str {z : List Nat} : recvTy s (.str z) = some "str" := rfl
@[simp] theorem recvTy_lst {z : List D} : recvTy s (.lst z) = some "list" := rfl
@[simp] theorem recvTy_scr {z : List Int} : recvTy s (.scr z) = some "list" := rfl
@[simp] theorem recvTy_loc {n : Nat} : recvTy s (.loc n) = match s[n]? with
    | some (.lst _) => some "list"
    | some (.dct _ _) => some "dict"
    | _ => none := rfl
@[simp] theorem mAppend_eq {n : Nat} {d : D} : mAppend (.loc n) [d] s = match s[n]? with
    | some (.lst xs) => if xs.length < lim then .ok .non (s.set n (.lst (xs ++ [d]))) else .stuck
    | _ => .stuck := rfl
@[simp] theorem itAny_eq {f : DE} : itAny f δ s = (f δ s).bind fun x s1 => match x with
  | .lst xs => .ok xs s1
  | .scr ns => .ok (ns.map D.int) s1
  | .tup xs => .ok xs s1
  | .str z => .ok (z.map fun c => D.str [c]) s1
  | _ => .stuck := by
  unfold itAny
  cases f δ s with
  | ok x s1 => cases x <;> rfl
  | _ => rfl
@[simp] theorem oInA_sign {neg : Bool} {c : Nat} {z : List Nat} : oInA neg (.str [c]) (.str z) s = .ok (.bl (neg != decide (c ∈ z))) s := rfl
@[simp] theorem oInA_lst {neg : Bool} {x : D} {ys : List D} : oInA neg x (.lst ys) s = if (flatD x && ys.all flatD) = true then .ok (.bl (neg != ys.any fun y => eqF y x)) s else .stuck := by
  unfold oInA
  split
  · rename_i h; cases h
  · rfl
@[simp] theorem oInA_tup {neg : Bool} {x : D} {ys : List D} : oInA neg x (.tup ys) s = if (flatD x && ys.all flatD) = true then .ok (.bl (neg != ys.any fun y => eqF y x)) s else .stuck := by
  unfold oInA
  split
  · rename_i h; cases h
  · rfl
@[simp] theorem dFmt_eq {f : DE} : dFmt f δ s = (f δ s).bind fun x s1 => match x with
  | .str z => if z.length ≤ lim then .ok (.str z) s1 else .stuck
  | .int i => if i.natAbs.log2 < 1920 then .ok (.str (strI i)) s1 else .stuck
  | _ => .stuck := rfl
@[simp] theorem dJs_nil {acc : List Nat} : dJs [] acc δ s = .ok (.str acc) s := rfl
@[simp] theorem dJs_cons {f : DE} {fs : List DE} {acc : List Nat} : dJs (f :: fs) acc δ s = (f δ s).bind fun x s1 => match x with
    | .str z => if (acc ++ z).length ≤ lim then dJs fs (acc ++ z) δ s1 else .stuck
    | _ => .stuck := rfl
@[simp] theorem oMulA_int {a b : Int} : oMulA (.int a) (.int b) s = if cMul a b = true then .ok (.int (a * b)) s else .stuck := rfl
@[simp] theorem oMulA_lst {xs : List D} {k : Int} : oMulA (.lst xs) (.int k) s = if xs.length * k.toNat ≤ lim ∧ -(2 ^ 62) ≤ k ∧ k < 2 ^ 62 then .ok (.lst (List.replicate k.toNat xs).flatten) s else .stuck := rfl
@[simp] theorem dRepl_eq {y z : Str} {f : DE} : dRepl y z f δ s = (f δ s).bind fun x s1 => match x with
  | .str a => if a.length + (a.length + 1) * z.length ≤ lim then .ok (.str (un (Txt.replace (S a) y z))) s1 else .stuck
  | _ => .stuck := rfl
@[simp] theorem bInt_int {i : Int} : bInt [.int i] s = .ok (.int i) s := rfl
@[simp] theorem bInt_bl {b : Bool} : bInt [.bl b] s = .ok (.int (if b then 1 else 0)) s := rfl
@[simp] theorem bInt_str {z : List Nat} : bInt [.str z] s = match PySem.intText? (S z) with
    | some n => if z.length ≤ 640 then .ok (.int n) s else .stuck
    | none => .stuck := rfl
@[simp] theorem bStr_int {i : Int} : bStr [.int i] s = if i.natAbs.log2 < 1920 then .ok (.str (strI i)) s else .stuck := rfl
@[simp] theorem bDivmod_int {i j : Int} : bDivmod [.int i, .int j] s = if (decide (0 < j) && decide (j < 1073741824)) = true then .ok (.tup [.int (i / j), .int (i % j)]) s else .stuck := rfl
/-- a comprehension without a test, its values by a function; with a test -/
theorem lcL_map {t : DTg} {e : DE} (f : D → D) : ∀ (ds acc : List D), acc.length + ds.length ≤ lim → (∀ d ∈ ds, ∃ δ1, t d δ = some δ1 ∧ e δ1 s = .ok (f d) s) → lcL t cYes e δ ds acc s = .ok (.lst (acc ++ ds.map f)) s
  | [], acc, _, _ => by simp
  | d :: ds, acc, hl, h => by
    obtain ⟨δ1, h1, h2⟩ := h d List.mem_cons_self
    rw [List.length_cons] at hl
    rw [lcL_cons, h1]
    dsimp only
    rw [cYes_eq]
    dsimp only
    rw [h2]
    dsimp only
    rw [if_pos (by omega), lcL_map f ds (acc ++ [f d]) (by rw [List.length_append, List.length_singleton]; omega) fun d' hd => h d' (List.mem_cons_of_mem _ hd), List.append_assoc, List.map_cons]
    rfl
theorem lcL_fil {t : DTg} {c : DT} {e : DE} (f : D → D) (p : D → Bool) : ∀ (ds acc : List D), acc.length + ds.length ≤ lim → (∀ d ∈ ds, ∃ δ1, t d δ = some δ1 ∧ c δ1 s = .ok (p d) s ∧ (p d = true → e δ1 s = .ok (f d) s)) → lcL t c e δ ds acc s = .ok (.lst (acc ++ (ds.filter p).map f)) s
  | [], acc, _, _ => by simp
  | d :: ds, acc, hl, h => by
    obtain ⟨δ1, h1, h2, h3⟩ := h d List.mem_cons_self
    rw [List.length_cons] at hl
    rw [lcL_cons, h1]
    dsimp only
    rw [h2]
    cases hp : p d with
    | false =>
      dsimp only
      rw [lcL_fil f p ds acc (by omega) fun d' hd => h d' (List.mem_cons_of_mem _ hd), List.filter_cons_of_neg (by rw [hp]; exact Bool.false_ne_true)]
    | true =>
      dsimp only
      rw [h3 hp]
      dsimp only
      rw [if_pos (by omega), lcL_fil f p ds (acc ++ [f d]) (by rw [List.length_append, List.length_singleton]; omega) fun d' hd => h d' (List.mem_cons_of_mem _ hd), List.append_assoc, List.filter_cons_of_pos hp, List.map_cons]
      rfl
theorem bools_map {α : Type} (g : α → Bool) : ∀ l : List α, boolsOf (l.map fun x => D.bl (g x)) = some (l.map g)
  | [] => rfl
  | x :: l => by
    show (boolsOf (l.map fun x => D.bl (g x))).map (g x :: ·) = _
    rw [bools_map g l]; rfl
end
end Mp
/-! # MpT -/
namespace Mp
open PySem PySem.Spec L2
/-! ## equality of nested lists and tuples, by the deep values -/
def okS (z : List Nat) : Bool := z.all fun c => decide (c < 1114112)
mutual
def datD : Nat → D → Bool
  | _, .non => true
  | _, .bl _ => true
  | _, .int _ => true
  | _, .str z => okS z
  | n + 1, .lst xs => datDs n xs
  | n + 1, .tup xs => datDs n xs
  | _, _ => false
def datDs : Nat → List D → Bool
  | _, [] => true
  | n, x :: xs => datD n x && datDs n xs
end
mutual
def eqD : D → D → Bool
  | .lst xs, .lst ys => eqDs xs ys
  | .tup xs, .tup ys => eqDs xs ys
  | .non, .non => true
  | .bl a, .bl b => a == b
  | .bl a, .int b => (if a then 1 else 0) == b
  | .int a, .bl b => a == (if b then 1 else 0)
  | .int a, .int b => a == b
  | .str a, .str b => a == b
  | _, _ => false
def eqDs : List D → List D → Bool
  | [], [] => true
  | x :: xs, y :: ys => eqD x y && eqDs xs ys
  | _, _ => false
end
mutual
theorem dat_ok : ∀ {n : Nat} {x : D}, datD n x = true → ∃ p, toP x = some p ∧ p.canLay0 = true ∧ p.depth ≤ n
  | _, .non, _ => ⟨_, rfl, rfl, Nat.zero_le _⟩
  | _, .bl _, _ => ⟨_, rfl, rfl, Nat.zero_le _⟩
  | _, .int _, _ => ⟨_, rfl, rfl, Nat.zero_le _⟩
  | n, .str z, h => ⟨.str (S z), rfl, by
      have h' : okS z = true := by cases n <;> exact h
      show PyData.strOk (S z) = true
      unfold PyData.strOk S
      unfold okS at h'
      rw [List.all_eq_true] at h'
      simp only [List.all_toArray, List.all_eq_true, decide_eq_true_eq]
      intro c hc
      simpa using h' c hc, Nat.zero_le _⟩
  | n + 1, .lst xs, h => by
    obtain ⟨ps, h1, h2, h3⟩ := dats_ok (n := n) (xs := xs) h
    exact ⟨.list ps, by unfold toP; rw [h1]; rfl, by unfold PyData.canLay0; exact h2, by unfold PyData.depth; omega⟩
  | n + 1, .tup xs, h => by
    obtain ⟨ps, h1, h2, h3⟩ := dats_ok (n := n) (xs := xs) h
    exact ⟨.tuple ps, by unfold toP; rw [h1]; rfl, by unfold PyData.canLay0; exact h2, by unfold PyData.depth; omega⟩
  | 0, .lst _, h => by cases h
  | 0, .tup _, h => by cases h
  | 0, .scr _, h => by cases h
  | _ + 1, .scr _, h => by cases h
  | 0, .dct _ _, h => by cases h
  | _ + 1, .dct _ _, h => by cases h
  | 0, .obj _ _ _, h => by cases h
  | _ + 1, .obj _ _ _, h => by cases h
  | 0, .loc _, h => by cases h
  | _ + 1, .loc _, h => by cases h
  | 0, .exc _, h => by cases h
  | _ + 1, .exc _, h => by cases h
  | 0, .cls _, h => by cases h
  | _ + 1, .cls _, h => by cases h
  | 0, .ty _, h => by cases h
  | _ + 1, .ty _, h => by cases h
theorem dats_ok : ∀ {n : Nat} {xs : List D}, datDs n xs = true → ∃ ps, toPs xs = some ps ∧ PyData.canLayAll0 ps = true ∧ PyData.depthAll ps ≤ n
  | _, [], _ => ⟨[], rfl, rfl, Nat.zero_le _⟩
  | n, x :: xs, h => by
    have h' : (datD n x && datDs n xs) = true := h
    rw [Bool.and_eq_true] at h'
    obtain ⟨p, h1, h2, h3⟩ := dat_ok h'.1
    obtain ⟨ps, h4, h5, h6⟩ := dats_ok h'.2
    exact ⟨p :: ps, by unfold toPs; rw [h1, h4], by unfold PyData.canLayAll0; rw [h2, h5]; rfl, by unfold PyData.depthAll; omega⟩
end
theorem S_beq (a b : List Nat) : (S a == S b) = (a == b) := by
  rw [beq_dec, beq_dec]
  exact decide_eq_decide.mpr ⟨fun h => S_inj h, fun h => by rw [h]⟩
theorem flat_l {x y : D} {p q : PyData} (fx : flatD x = true) (hy : ∃ m, datD m y = true) (ep : toP x = some p) (eq : toP y = some q) : PyData.eqv p q = eqD x y := by
  obtain ⟨m, hy⟩ := hy
  cases x <;> first | cases fx | skip
  all_goals
    cases ep
    cases y with
    | lst ys =>
      have e : (toPs ys).map PyData.list = some q := eq
      cases h : toPs ys with
      | none => rw [h] at e; cases e
      | some qs => rw [h] at e; cases e; rfl
    | tup ys =>
      have e : (toPs ys).map PyData.tuple = some q := eq
      cases h : toPs ys with
      | none => rw [h] at e; cases e
      | some qs => rw [h] at e; cases e; rfl
    | non => cases eq; rfl
    | bl _ => cases eq; rfl
    | int _ => cases eq; rfl
    | str _ => first | (cases eq; rfl) | (cases eq; exact S_beq _ _)
    | _ => cases m <;> cases hy
mutual
theorem eqv_ok : ∀ {n m : Nat} {x y : D} {p q : PyData}, datD n x = true → datD m y = true → toP x = some p → toP y = some q → PyData.eqv p q = eqD x y
  | n + 1, m, .lst xs, y, p, q, hx, hy, ep, eq => by
    obtain ⟨ps, h1, _, _⟩ := dats_ok (n := n) (xs := xs) hx
    have e : toP (.lst xs) = some (.list ps) := by unfold toP; rw [h1]; rfl
    rw [e] at ep; cases ep
    cases y with
    | lst ys =>
      cases m with
      | zero => cases hy
      | succ m =>
        obtain ⟨qs, h2, _, _⟩ := dats_ok (n := m) (xs := ys) hy
        have e2 : toP (.lst ys) = some (.list qs) := by unfold toP; rw [h2]; rfl
        rw [e2] at eq; cases eq
        unfold PyData.eqv eqD
        exact eqvs_ok (n := n) (m := m) hx hy h1 h2
    | tup ys =>
      cases m with
      | zero => cases hy
      | succ m =>
        obtain ⟨qs, h2, _, _⟩ := dats_ok (n := m) (xs := ys) hy
        have e2 : toP (.tup ys) = some (.tuple qs) := by unfold toP; rw [h2]; rfl
        rw [e2] at eq; cases eq
        rfl
    | non => cases eq; rfl
    | bl _ => cases eq; rfl
    | int _ => cases eq; rfl
    | str _ => cases eq; rfl
    | _ => cases m <;> cases hy
  | n + 1, m, .tup xs, y, p, q, hx, hy, ep, eq => by
    obtain ⟨ps, h1, _, _⟩ := dats_ok (n := n) (xs := xs) hx
    have e : toP (.tup xs) = some (.tuple ps) := by unfold toP; rw [h1]; rfl
    rw [e] at ep; cases ep
    cases y with
    | tup ys =>
      cases m with
      | zero => cases hy
      | succ m =>
        obtain ⟨qs, h2, _, _⟩ := dats_ok (n := m) (xs := ys) hy
        have e2 : toP (.tup ys) = some (.tuple qs) := by unfold toP; rw [h2]; rfl
        rw [e2] at eq; cases eq
        unfold PyData.eqv eqD
        exact eqvs_ok (n := n) (m := m) hx hy h1 h2
    | lst ys =>
      cases m with
      | zero => cases hy
      | succ m =>
        obtain ⟨qs, h2, _, _⟩ := dats_ok (n := m) (xs := ys) hy
        have e2 : toP (.lst ys) = some (.list qs) := by unfold toP; rw [h2]; rfl
        rw [e2] at eq; cases eq
        rfl
    | non => cases eq; rfl
    | bl _ => cases eq; rfl
    | int _ => cases eq; rfl
    | str _ => cases eq; rfl
    | _ => cases m <;> cases hy
  | 0, _, .lst _, _, _, _, hx, _, _, _ => by cases hx
  | 0, _, .tup _, _, _, _, hx, _, _, _ => by cases hx
  | n, m, .non, y, p, q, hx, hy, ep, eq => by cases ep; exact flat_l rfl ⟨m, hy⟩ rfl eq
  | n, m, .bl _, y, p, q, hx, hy, ep, eq => by cases ep; exact flat_l rfl ⟨m, hy⟩ rfl eq
  | n, m, .int _, y, p, q, hx, hy, ep, eq => by cases ep; exact flat_l rfl ⟨m, hy⟩ rfl eq
  | n, m, .str _, y, p, q, hx, hy, ep, eq => by cases ep; exact flat_l rfl ⟨m, hy⟩ rfl eq
  | n, _, .scr _, _, _, _, hx, _, _, _ => by cases n <;> cases hx
  | n, _, .dct _ _, _, _, _, hx, _, _, _ => by cases n <;> cases hx
  | n, _, .obj _ _ _, _, _, _, hx, _, _, _ => by cases n <;> cases hx
  | n, _, .loc _, _, _, _, hx, _, _, _ => by cases n <;> cases hx
  | n, _, .exc _, _, _, _, hx, _, _, _ => by cases n <;> cases hx
  | n, _, .cls _, _, _, _, hx, _, _, _ => by cases n <;> cases hx
  | n, _, .ty _, _, _, _, hx, _, _, _ => by cases n <;> cases hx
theorem eqvs_ok : ∀ {n m : Nat} {xs ys : List D} {ps qs : List PyData}, datDs n xs = true → datDs m ys = true → toPs xs = some ps → toPs ys = some qs → PyData.eqvAll ps qs = eqDs xs ys
  | _, _, [], ys, ps, qs, _, hy, ep, eq => by
    cases ep
    cases ys with
    | nil => cases eq; rfl
    | cons y ys =>
      unfold toPs at eq
      cases h1 : toP y with
      | none => rw [h1] at eq; cases eq
      | some q =>
        cases h2 : toPs ys with
        | none => rw [h1, h2] at eq; cases eq
        | some qs' => rw [h1, h2] at eq; cases eq; rfl
  | n, m, x :: xs, ys, ps, qs, hx, hy, ep, eq => by
    have hx' : (datD n x && datDs n xs) = true := hx
    rw [Bool.and_eq_true] at hx'
    unfold toPs at ep
    cases h3 : toP x with
    | none => rw [h3] at ep; cases ep
    | some p =>
      cases h4 : toPs xs with
      | none => rw [h3, h4] at ep; cases ep
      | some ps' =>
        rw [h3, h4] at ep; cases ep
        cases ys with
        | nil => cases eq; rfl
        | cons y ys =>
          have hy' : (datD m y && datDs m ys) = true := hy
          rw [Bool.and_eq_true] at hy'
          unfold toPs at eq
          cases h1 : toP y with
          | none => rw [h1] at eq; cases eq
          | some q =>
            cases h2 : toPs ys with
            | none => rw [h1, h2] at eq; cases eq
            | some qs' =>
              rw [h1, h2] at eq; cases eq
              unfold PyData.eqvAll eqDs
              rw [eqv_ok hx'.1 hy'.1 h3 h1, eqvs_ok hx'.2 hy'.2 h4 h2]
end
theorem shaped_of {p : PyData} (h1 : p.canLay0 = true) (h2 : p.depth ≤ 64) : SeqAt.shaped p = true := by
  unfold SeqAt.shaped
  rw [h1, decide_eq_true h2]; rfl
theorem scD_eqD {x y : D} {b : Bool} (h : scD x y = some b) : b = eqD x y := by
  unfold scD at h
  split at h <;> first | (cases h; rfl) | cases h
theorem noLoc {s : Sto} {n : Nat} {x : D} (h : datD n x = true) : toPc s x = toP x := by
  cases x with
  | lst xs => rfl
  | loc k => cases n <;> cases h
  | _ => rfl
theorem oEq_dat {b : Bool} {x y : D} {s : Sto} (hx : datD 64 x = true) (hy : datD 64 y = true) : oEqG b x y s = .ok (.bl (b != eqD x y)) s := by
  unfold oEqG
  cases h : scD x y with
  | some c => dsimp only; rw [scD_eqD h]
  | none =>
    obtain ⟨p, h1, h2, h3⟩ := dat_ok hx
    obtain ⟨q, h4, h5, h6⟩ := dat_ok hy
    rw [noLoc hx, noLoc hy, h1, h4]
    dsimp only
    rw [shaped_of h2 h3, shaped_of h5 h6, eqv_ok hx hy h1 h4]
    rfl
section
variable {b : Bool} {xs ys : List D} {s : Sto} {a : Int} {z : List Nat}
theorem oEq_ll (hx : datDs 63 xs = true) (hy : datDs 63 ys = true) : oEqG b (.lst xs) (.lst ys) s = .ok (.bl (b != eqDs xs ys)) s := by rw [oEq_dat (x := .lst xs) (y := .lst ys) hx hy]; unfold eqD; rfl
theorem oEq_tt (hx : datDs 63 xs = true) (hy : datDs 63 ys = true) : oEqG b (.tup xs) (.tup ys) s = .ok (.bl (b != eqDs xs ys)) s := by rw [oEq_dat (x := .tup xs) (y := .tup ys) hx hy]; unfold eqD; rfl
theorem oEq_loc {n : Nat} {y : D} (h : s[n]? = some (.lst xs)) (hx : datDs 63 xs = true) (hy : datD 64 y = true) : oEqG b (.loc n) y s = .ok (.bl (b != eqD (.lst xs) y)) s := by
  have e : oEqG b (.loc n) y s = oEqG b (.lst xs) y s := by
    unfold oEqG
    have e1 : scD (.loc n) y = none := by cases y <;> rfl
    have e2 : scD (.lst xs) y = none := by cases y <;> rfl
    have e3 : toPc s (.loc n) = toPc s (.lst xs) := by unfold toPc; simp [h]
    rw [e1, e2, e3]
  rw [e, oEq_dat (x := .lst xs) hx hy]
theorem ints_lay : ∀ ns : List Int, PyData.canLayAll0 (ns.map PyData.int) = true ∧ PyData.depthAll (ns.map PyData.int) = 0
  | [] => ⟨rfl, rfl⟩
  | n :: ns => by
    obtain ⟨h1, h2⟩ := ints_lay ns
    rw [List.map_cons]
    exact ⟨by unfold PyData.canLayAll0; rw [h1]; rfl, by unfold PyData.depthAll; rw [h2]; rfl⟩
/-- the script == [] -/
theorem oEq_scr0 {ns : List Int} : oEqG b (.scr ns) (.lst []) s = .ok (.bl (b != ns.isEmpty)) s := by
  unfold oEqG
  obtain ⟨h1, h2⟩ := ints_lay ns
  have e1 : toPc s (.scr ns) = some (.list (ns.map PyData.int)) := rfl
  have e2 : toPc s (.lst []) = some (.list []) := rfl
  have e3 : SeqAt.shaped (.list (ns.map PyData.int)) = true := shaped_of (by unfold PyData.canLay0; exact h1) (by unfold PyData.depth; rw [h2]; decide)
  have e4 : scD (.scr ns) (.lst []) = none := rfl
  rw [e4, e1, e2]
  dsimp only
  rw [e3, show SeqAt.shaped (.list []) = true from shaped_of rfl (by decide)]
  cases ns <;> rfl
@[simp] theorem datDs_nil {n : Nat} : datDs n [] = true := by cases n <;> rfl
@[simp] theorem datDs_cons {n : Nat} {x : D} : datDs n (x :: xs) = (datD n x && datDs n xs) := by cases n <;> rfl
@[simp] theorem datD_non {n : Nat} : datD n .non = true := by cases n <;> rfl
@[simp] theorem datD_bl {n : Nat} {c : Bool} : datD n (.bl c) = true := by cases n <;> rfl
@[simp] theorem datD_int {n : Nat} : datD n (.int a) = true := by cases n <;> rfl
@[simp] theorem datD_str {n : Nat} : datD n (.str z) = okS z := by cases n <;> rfl
@[simp] theorem datD_lst {n : Nat} : datD (n + 1) (.lst xs) = datDs n xs := rfl
@[simp] theorem datD_tup {n : Nat} : datD (n + 1) (.tup xs) = datDs n xs := rfl
@[simp] theorem eqDs_nil : eqDs [] [] = true := rfl
@[simp] theorem eqDs_cn {x : D} : eqDs (x :: xs) [] = false := rfl
@[simp] theorem eqDs_nc {x : D} : eqDs [] (x :: xs) = false := rfl
@[simp] theorem eqDs_cc {x y : D} : eqDs (x :: xs) (y :: ys) = (eqD x y && eqDs xs ys) := rfl
@[simp] theorem eqD_int {c : Int} : eqD (.int a) (.int c) = (a == c) := rfl
@[simp] theorem eqD_str {y : List Nat} : eqD (.str z) (.str y) = (z == y) := rfl
@[simp] theorem eqD_bl {c d : Bool} : eqD (.bl c) (.bl d) = (c == d) := rfl
@[simp] theorem eqD_ll : eqD (.lst xs) (.lst ys) = eqDs xs ys := by unfold eqD; rfl
@[simp] theorem eqD_tt : eqD (.tup xs) (.tup ys) = eqDs xs ys := by unfold eqD; rfl
@[simp] theorem eqD_il : eqD (.int a) (.lst ys) = false := rfl
@[simp] theorem eqD_sl : eqD (.str z) (.lst ys) = false := rfl
@[simp] theorem eqD_nl : eqD .non (.lst ys) = false := rfl
@[simp] theorem eqD_li : eqD (.lst xs) (.int a) = false := rfl
@[simp] theorem eqD_ls : eqD (.lst xs) (.str z) = false := rfl
@[simp] theorem eqD_it : eqD (.int a) (.tup ys) = false := rfl
@[simp] theorem eqD_st : eqD (.str z) (.tup ys) = false := rfl
@[simp] theorem eqD_ti : eqD (.tup xs) (.int a) = false := rfl
@[simp] theorem eqD_ts : eqD (.tup xs) (.str z) = false := rfl
@[simp] theorem eqD_lt : eqD (.lst xs) (.tup ys) = false := rfl
@[simp] theorem eqD_tl : eqD (.tup xs) (.lst ys) = false := rfl
end
/-! ## texts: where one sign stands -/
theorem sub1 {t : List Nat} {c i : Nat} : Builtin.Str.subAt (S t) (S [c]) i = decide (t[i]? = some c) := by
  unfold Builtin.Str.subAt
  have e : (S t).cps.extract i (i + (S [c]).length) = ((t.drop i).take 1).toArray := by
    rw [S_len]
    simp [S, List.extract_toArray, List.extract_eq_take_drop]
  rw [e]
  by_cases h : i < t.length
  · rw [List.drop_eq_getElem_cons h, List.take_succ_cons, List.take_zero, List.getElem?_eq_getElem h]
    by_cases h2 : t[i] = c <;> simp [h2, S]
  · rw [List.drop_eq_nil_of_le (by omega), List.getElem?_eq_none (by omega)]
    simp [S]
theorem at1 {t : List Nat} {c i : Nat} : StrLaws.At (S t) (S [c]) (S t).length i ↔ t[i]? = some c := by
  unfold StrLaws.At
  rw [sub1, S_len, S_len]
  constructor
  · rintro ⟨_, h⟩
    simpa using h
  · intro h
    have := (List.getElem?_eq_some_iff.mp h).1
    exact ⟨this, by simpa using h⟩
theorem occ1 {p q : List Nat} {c : Nat} (h : c ∉ p) : ∃ r, Builtin.Str.occurrences (S (p ++ c :: q)) (S [c]) 0 (S (p ++ c :: q)).length 1 = p.length :: r := by
  rcases StrLaws.occ_head (S (p ++ c :: q)) (S [c]) 1 (Nat.le_refl _) with ⟨_, hn⟩ | ⟨i, r, e, ha, hn⟩
  · exact absurd (at1.mpr (by simp)) (hn p.length)
  · refine ⟨r, ?_⟩
    rw [e]
    congr 1
    have h1 := at1.mp ha
    rcases Nat.lt_trichotomy i p.length with hl | he | hg
    · rw [List.getElem?_append_left hl] at h1
      exact absurd (List.mem_of_getElem? h1) h
    · exact he
    · exact absurd (at1.mpr (by simp)) (hn p.length hg)
theorem occ0 {p : List Nat} {c : Nat} (h : c ∉ p) : Builtin.Str.occurrences (S p) (S [c]) 0 (S p).length 1 = [] := by
  rcases StrLaws.occ_head (S p) (S [c]) 1 (Nat.le_refl _) with ⟨e, hn⟩ | ⟨i, r, e, ha, hn⟩
  · exact e
  · exact absurd (List.mem_of_getElem? (at1.mp ha)) h
theorem find1 {p q : List Nat} {c : Nat} (h : c ∉ p) : Txt.find (S (p ++ c :: q)) (S [c]) = p.length := by
  obtain ⟨r, e⟩ := occ1 (q := q) h
  unfold Txt.find
  rw [e]
theorem find0 {p : List Nat} {c : Nat} (h : c ∉ p) : Txt.find (S p) (S [c]) = -1 := by
  unfold Txt.find
  rw [occ0 h]
theorem starts1 {a c : Nat} {r : List Nat} : Txt.startswith (S (a :: r)) (S [c]) = (a == c) := by
  unfold Txt.startswith
  rw [sub1, S_len, S_len]
  by_cases h : a = c <;> simp [h]
theorem starts0 {c : Nat} : Txt.startswith (S []) (S [c]) = false := by
  unfold Txt.startswith
  rw [S_len, S_len]
  rfl
theorem sIx_nat {n d i : Nat} (h : i ≤ n) : HT.sIx n d (some (i : Int)) = i := by
  rw [HT.sIx_nat]; omega
theorem cutL_to {α : Type} {a b : List α} {i : Int} (h : i = (a.length : Int)) : cutL (a ++ b) none (some i) = a := by
  subst h
  unfold cutL
  rw [sIx_nat (by simp)]
  simp [HT.sIx]
theorem cutL_from {α : Type} {a b : List α} {i : Int} (h : i = (a.length : Int)) : cutL (a ++ b) (some i) none = b := by
  subst h
  unfold cutL
  rw [sIx_nat (by simp)]
  simp [HT.sIx]
end Mp
/-! # the defs -/
namespace Rb
open PySem PySem.Spec L2 Mp
def top (i : Nat) : Stmt := PySem.Challenge.pw_roadbook_k02_moments.main.body.getD i (.Pass ⟨0, 0, 0, 0⟩)
abbrev s_is_among : Stmt := top 21
abbrev s_are_figures : Stmt := top 22
abbrev s_number_of : Stmt := top 23
abbrev s_need_among : Stmt := top 24
abbrev s_clock_text : Stmt := top 25
abbrev s_minute_of : Stmt := top 26
abbrev s_moment_of : Stmt := top 27
abbrev s_day_and_minute : Stmt := top 28
abbrev s_moment_text : Stmt := top 29
abbrev s_moment_by : Stmt := top 30
abbrev s__law_cell : Stmt := top 32
abbrev s__law_draw : Stmt := top 33
abbrev s__law_whole : Stmt := top 34
abbrev s__law_class : Stmt := top 35
abbrev s__law_written : Stmt := top 36
abbrev s__law_due : Stmt := top 37
abbrev s__law_told : Stmt := top 38
abbrev s__law_changed : Stmt := top 39
abbrev s__law_right : Stmt := top 40
abbrev s_law : Stmt := top 41
def caT (K : PySem.W.Frag) : Nat → Addr
  | 0 => He.ga K "RoadError"
  | 1 => He.ga K "BadClock"
  | 2 => He.ga K "BadRule"
  | 3 => He.ga K "TooMany"
  | 4 => He.ga K "BadName"
  | 5 => He.ga K "Twice"
  | 6 => He.ga K "NoStop"
  | 7 => He.ga K "BadNumber"
  | 8 => He.ga K "BadCalls"
  | 9 => He.ga K "NoRun"
  | 10 => He.ga K "TooLate"
  | 11 => He.ga K "NoTraveller"
  | 12 => He.ga K "BadLine"
  | _ => 0
abbrev tb (K : PySem.W.Frag) : Tb := { K := K, ca := caT K, fm := fun _ => "" }
abbrev parT : List Nat := [0, 0, 0, 0, 0, 0, 0, 0, 0, 0, 0, 0, 0]
structure Txt (K : PySem.W.Frag) (mg : Str → Option Value) : Prop where
  f_ValueError : mg "ValueError" = none
  f_all : mg "all" = none
  f_bool : mg "bool" = none
  f_divmod : mg "divmod" = none
  f_int : mg "int" = none
  f_isinstance : mg "isinstance" = none
  f_len : mg "len" = none
  f_max : mg "max" = none
  f_range : mg "range" = none
  f_str : mg "str" = none
  f_tuple : mg "tuple" = none
  k_FIGURES : ∃ u, mg "FIGURES" = some u ∧ RelV (.str (S [48, 49, 50, 51, 52, 53, 54, 55, 56, 57])) u
  k_MOST_FIGURES : ∃ u, mg "MOST_FIGURES" = some u ∧ RelV (.int 5) u
  k_LAST_DAY : ∃ u, mg "LAST_DAY" = some u ∧ RelV (.int 9999) u
  k_DAY : ∃ u, mg "DAY" = some u ∧ RelV (.int 1440) u
  k_LAST_MINUTE : ∃ u, mg "LAST_MINUTE" = some u ∧ RelV (.int 2879) u
  k_LAST_MOMENT : ∃ u, mg "LAST_MOMENT" = some u ∧ RelV (.int 14399999) u
  c_RoadError : mg "RoadError" = some (.ref (caT K 0))
  c_BadClock : mg "BadClock" = some (.ref (caT K 1))
  c_BadRule : mg "BadRule" = some (.ref (caT K 2))
  c_TooMany : mg "TooMany" = some (.ref (caT K 3))
  c_BadName : mg "BadName" = some (.ref (caT K 4))
  c_Twice : mg "Twice" = some (.ref (caT K 5))
  c_NoStop : mg "NoStop" = some (.ref (caT K 6))
  c_BadNumber : mg "BadNumber" = some (.ref (caT K 7))
  c_BadCalls : mg "BadCalls" = some (.ref (caT K 8))
  c_NoRun : mg "NoRun" = some (.ref (caT K 9))
  c_TooLate : mg "TooLate" = some (.ref (caT K 10))
  c_NoTraveller : mg "NoTraveller" = some (.ref (caT K 11))
  c_BadLine : mg "BadLine" = some (.ref (caT K 12))
  xt : ExT K (caT K) parT
/-! ### is_among -/
abbrev N_is_among : List Str := ["thing", "least", "most"]
def g_is_among : DS :=
  (sRet (dAndV (dBi (bIsA parT) (aCons (dVar 0) (aCons (dC (.ty "int")) aNil))) (dAndV (dNotV (dBi (bIsA parT) (aCons (dVar 0) (aCons (dC (.ty "bool")) aNil)))) (dChain oLe oLe (dVar 1) (dVar 0) (dVar 2)))))
def f_is_among : List D → Sto → Res D := mkF 3 3 g_is_among
theorem sc_is_among : FnScope N_is_among ["thing", "least", "most"] (defScope s_is_among) := ⟨rfl, rfl, rfl, by decide +kernel, rfl, by decide +kernel, by decide +kernel⟩
section
variable {P : Program} {w : World} {K : PySem.W.Frag} {mg : Str → Option Value} {base : Heap}
theorem b_is_among (Tx : Txt K mg)  {f : Addr} (cdv : Value) (A : Around) (outer : List PySem.Env) (s : Shared) (H : Hp) (E : XK) (hr : Room 0 (A.deeper (PyProof.Rows.envOfC "is_among" (defScope s_is_among) s.heap.objs.size f cdv))) : PDb (tb K) (cxOf (L2.CX P w) P w (tb K).K mg base N_is_among "is_among" (defScope s_is_among) f cdv A outer s H E) (defBody s_is_among) g_is_among :=
  (b_one (s_ret (d_and (d_callB (fun _ _ => call_isA) (db_isA Tx.xt) Tx.f_isinstance (by decide +kernel) (a_cons (d_var 0) (a_cons (d_ty "int" Tx.f_int (by decide +kernel)) a_nil))) (d_and (d_not (d_callB (fun _ _ => call_isA) (db_isA Tx.xt) Tx.f_isinstance (by decide +kernel) (a_cons (d_var 0) (a_cons (d_ty "bool" Tx.f_bool (by decide +kernel)) a_nil)))) (d_one (d_chain (fun _ _ => op_le) (fun _ _ => op_le) do_cmp do_cmp (d_var 1) (d_var 0) (d_var 2)))))))
end
/-! ### are_figures -/
abbrev N_are_figures : List Str := ["word", "sign"]
def g_are_figures : DS :=
  (sRet (dAndV (dOp oNe (dVar 0) (dC (.str []))) (dBi bAll (aCons (dLc (itAny (dVar 0)) (tgN 1) cYes (dOp (oInA false) (dVar 1) (dC (.str [48, 49, 50, 51, 52, 53, 54, 55, 56, 57]))) [1]) aNil))))
def f_are_figures : List D → Sto → Res D := mkF 2 1 g_are_figures
theorem sc_are_figures : FnScope N_are_figures ["word"] (defScope s_are_figures) := ⟨rfl, rfl, rfl, by decide +kernel, rfl, by decide +kernel, by decide +kernel⟩
section
variable {P : Program} {w : World} {K : PySem.W.Frag} {mg : Str → Option Value} {base : Heap}
theorem b_are_figures (Tx : Txt K mg)  {f : Addr} (cdv : Value) (A : Around) (outer : List PySem.Env) (s : Shared) (H : Hp) (E : XK) (hr : Room 0 (A.deeper (PyProof.Rows.envOfC "are_figures" (defScope s_are_figures) s.heap.objs.size f cdv))) : PDb (tb K) (cxOf (L2.CX P w) P w (tb K).K mg base N_are_figures "are_figures" (defScope s_are_figures) f cdv A outer s H E) (defBody s_are_figures) g_are_figures :=
  (b_one (s_ret (d_and (d_cmp (fun _ _ => op_neA hr.units) do_ne (d_var 0) (d_str [] (by decide +kernel)) (nomark _)) (d_one (d_callB (fun _ _ => cr_all rfl) db_all Tx.f_all (by decide +kernel) (a_cons (d_lc (own := [("sign", 1)]) sc_are_figures.nd (i_any (d_var 0)) (blkOk_by (sc := defScope s_are_figures) (N := N_are_figures) (by decide +kernel)) (fun _ _ _ _ _ => (g_name 1 sc_are_figures.nd)) (fun _ _ _ _ _ => ts_nil) (fun _ _ _ _ _ => (d_cmp (fun _ _ => op_inA) do_inA (d_var 1) (d_glob (d := .str [48, 49, 50, 51, 52, 53, 54, 55, 56, 57]) (v := .str (S [48, 49, 50, 51, 52, 53, 54, 55, 56, 57])) (fun _ _ => by unfold Rp; rfl) Tx.k_FIGURES) (by rfl)))) a_nil))))))
end
/-! ### number_of -/
abbrev N_number_of : List Str := ["word"]
def g_number_of : DS :=
  (sSeq (sIf (tOrD (tst (dOp oGt (dBi bLen (aCons (dVar 0) aNil)) (dC (.int 5)))) (tOrD (tNotD (tst (dCall f_are_figures (aCons (dVar 0) aNil)))) (tAndD (tst (dMt "str" mStarts (dVar 0) (aCons (dC (.str [48])) aNil))) (tst (dOp oNe (dVar 0) (dC (.str [48]))))))) (sRet (dC .non)) sPass)
    (sRet (dBi bInt (aCons (dVar 0) aNil))))
def f_number_of : List D → Sto → Res D := mkF 1 1 g_number_of
theorem sc_number_of : FnScope N_number_of ["word"] (defScope s_number_of) := ⟨rfl, rfl, rfl, by decide +kernel, rfl, by decide +kernel, by decide +kernel⟩
section
variable {P : Program} {w : World} {K : PySem.W.Frag} {mg : Str → Option Value} {base : Heap}
theorem b_number_of (Tx : Txt K mg) (c_are_figures : Cl (tb K) P w mg base "are_figures" 1 1 f_are_figures) {f : Addr} (cdv : Value) (A : Around) (outer : List PySem.Env) (s : Shared) (H : Hp) (E : XK) (hr : Room 1 (A.deeper (PyProof.Rows.envOfC "number_of" (defScope s_number_of) s.heap.objs.size f cdv))) : PDb (tb K) (cxOf (L2.CX P w) P w (tb K).K mg base N_number_of "number_of" (defScope s_number_of) f cdv A outer s H E) (defBody s_number_of) g_number_of :=
  (b_cons (s_if (PDw.t (w_or (t_cmp (fun _ _ => op_gt) do_cmp (d_callB (fun _ _ => call_len) db_len Tx.f_len (by decide +kernel) (a_cons (d_var 0) a_nil)) (d_glob (d := .int 5) (v := .int 5) (fun _ _ => by unfold Rp; rfl) Tx.k_MOST_FIGURES) (nomark _)) (w_or (t_not (t_val (d_call c_are_figures (a_cons (d_var 0) a_nil) hr))) (w_or1 (PDw.t (w_and (t_val (d_mt PySem.F.plainAttrs_str PySem.F.slot_str_startswith PySem.F.type_str_startswith (fun _ _ => mt_startswith) dm_starts (d_var 0) (a_cons (d_str [48] (by decide +kernel)) a_nil))) (w_and1 (t_cmp (fun _ _ => op_neA hr.units) do_ne (d_var 0) (d_str [48] (by decide +kernel)) (nomark _))))))))) (b_one (s_ret d_non)) b_nil)
    (b_one (s_ret (d_callT (fun _ _ => call_intA) db_int Tx.f_int (by decide +kernel) (a_cons (d_var 0) a_nil)))))
end
/-! ### need_among -/
abbrev N_need_among : List Str := ["thing", "most"]
def g_need_among : DS :=
  (sIf (tNotD (tst (dCall f_is_among (aCons (dVar 0) (aCons (dC (.int 0)) (aCons (dVar 1) aNil)))))) (sRaise 1) sPass)
def f_need_among : List D → Sto → Res D := mkF 2 2 g_need_among
theorem sc_need_among : FnScope N_need_among ["thing", "most"] (defScope s_need_among) := ⟨rfl, rfl, rfl, by decide +kernel, rfl, by decide +kernel, by decide +kernel⟩
section
variable {P : Program} {w : World} {K : PySem.W.Frag} {mg : Str → Option Value} {base : Heap}
theorem b_need_among (Tx : Txt K mg) (c_is_among : Cl (tb K) P w mg base "is_among" 1 3 f_is_among) {f : Addr} (cdv : Value) (A : Around) (outer : List PySem.Env) (s : Shared) (H : Hp) (E : XK) (hr : Room 1 (A.deeper (PyProof.Rows.envOfC "need_among" (defScope s_need_among) s.heap.objs.size f cdv))) : PDb (tb K) (cxOf (L2.CX P w) P w (tb K).K mg base N_need_among "need_among" (defScope s_need_among) f cdv A outer s H E) (defBody s_need_among) g_need_among :=
  (b_one (s_if (t_not (t_val (d_call c_is_among (a_cons (d_var 0) (a_cons d_int (a_cons (d_var 1) a_nil))) hr))) (b_one (s_raise 1 Tx.xt Tx.c_BadClock)) b_nil))
end
/-! ### clock_text -/
abbrev N_clock_text : List Str := ["minute", "hours", "rest"]
def g_clock_text : DS :=
  (sSeq (sDrop (dCall f_need_among (aCons (dVar 0) (aCons (dC (.int 2879)) aNil))))
    (sSeq (sAsg (dBi bDivmod (aCons (dVar 0) (aCons (dC (.int 60)) aNil))) (tgT [(tgN 1), (tgN 2)]))
    (sRet (dOp oAdd (dOp oAdd (dMt "str" mZfill (dBi bStr (aCons (dVar 1) aNil)) (aCons (dC (.int 2)) aNil)) (dC (.str [58]))) (dMt "str" mZfill (dBi bStr (aCons (dVar 2) aNil)) (aCons (dC (.int 2)) aNil))))))
def f_clock_text : List D → Sto → Res D := mkF 3 1 g_clock_text
theorem sc_clock_text : FnScope N_clock_text ["minute"] (defScope s_clock_text) := ⟨rfl, rfl, rfl, by decide +kernel, rfl, by decide +kernel, by decide +kernel⟩
section
variable {P : Program} {w : World} {K : PySem.W.Frag} {mg : Str → Option Value} {base : Heap}
theorem b_clock_text (Tx : Txt K mg) (c_need_among : Cl (tb K) P w mg base "need_among" 2 2 f_need_among) {f : Addr} (cdv : Value) (A : Around) (outer : List PySem.Env) (s : Shared) (H : Hp) (E : XK) (hr : Room 2 (A.deeper (PyProof.Rows.envOfC "clock_text" (defScope s_clock_text) s.heap.objs.size f cdv))) : PDb (tb K) (cxOf (L2.CX P w) P w (tb K).K mg base N_clock_text "clock_text" (defScope s_clock_text) f cdv A outer s H E) (defBody s_clock_text) g_clock_text :=
  (b_cons (s_expr (d_call c_need_among (a_cons (d_var 0) (a_cons (d_glob (d := .int 2879) (v := .int 2879) (fun _ _ => by unfold Rp; rfl) Tx.k_LAST_MINUTE) a_nil)) hr))
    (b_cons (s_asg (d_callB (fun _ _ => call_divmod) db_divmod Tx.f_divmod (by decide +kernel) (a_cons (d_var 0) (a_cons d_int a_nil))) (g_tup (gs_cons (g_name 1 sc_clock_text.nd) (gs_cons (g_name 2 sc_clock_text.nd) gs_nil))))
    (b_one (s_ret (d_op (fun _ _ => op_addA) do_add (d_op (fun _ _ => op_addA) do_add (d_mt PySem.F.plainAttrs_str PySem.F.slot_str_zfill PySem.F.type_str_zfill (fun _ _ => mt_zfill) dm_zfill (d_callT (fun _ _ => call_str_int) db_str Tx.f_str (by decide +kernel) (a_cons (d_var 1) a_nil)) (a_cons d_int a_nil)) (d_str [58] (by decide +kernel))) (d_mt PySem.F.plainAttrs_str PySem.F.slot_str_zfill PySem.F.type_str_zfill (fun _ _ => mt_zfill) dm_zfill (d_callT (fun _ _ => call_str_int) db_str Tx.f_str (by decide +kernel) (a_cons (d_var 2) a_nil)) (a_cons d_int a_nil)))))))
end
/-! ### minute_of -/
abbrev N_minute_of : List Str := ["text", "hours", "rest"]
def g_minute_of : DS :=
  (sSeq (sIf (tOrD (tNotD (tst (dBi (bIsA parT) (aCons (dVar 0) (aCons (dC (.ty "str")) aNil))))) (tOrD (tst (dOp oNe (dBi bLen (aCons (dVar 0) aNil)) (dC (.int 5)))) (tOrD (tst (dOp oNe (dOp oIx (dVar 0) (dC (.int 2))) (dC (.str [58])))) (tNotD (tst (dCall f_are_figures (aCons (dOp oAdd (dSl (dVar 0) pNone (pSome (dC (.int 2)))) (dSl (dVar 0) (pSome (dC (.int 3))) pNone)) aNil))))))) (sRaise 1) sPass)
    (sSeq (sSet 1 (dBi bInt (aCons (dSl (dVar 0) pNone (pSome (dC (.int 2)))) aNil)))
    (sSeq (sSet 2 (dBi bInt (aCons (dSl (dVar 0) (pSome (dC (.int 3))) pNone) aNil)))
    (sSeq (sIf (tOrD (tst (dOp oGt (dVar 2) (dC (.int 59)))) (tst (dOp oGt (dOp oAdd (dOp oMulA (dC (.int 60)) (dVar 1)) (dVar 2)) (dC (.int 2879))))) (sRaise 1) sPass)
    (sRet (dOp oAdd (dOp oMulA (dC (.int 60)) (dVar 1)) (dVar 2)))))))
def f_minute_of : List D → Sto → Res D := mkF 3 1 g_minute_of
theorem sc_minute_of : FnScope N_minute_of ["text"] (defScope s_minute_of) := ⟨rfl, rfl, rfl, by decide +kernel, rfl, by decide +kernel, by decide +kernel⟩
section
variable {P : Program} {w : World} {K : PySem.W.Frag} {mg : Str → Option Value} {base : Heap}
theorem b_minute_of (Tx : Txt K mg) (c_are_figures : Cl (tb K) P w mg base "are_figures" 1 1 f_are_figures) {f : Addr} (cdv : Value) (A : Around) (outer : List PySem.Env) (s : Shared) (H : Hp) (E : XK) (hr : Room 1 (A.deeper (PyProof.Rows.envOfC "minute_of" (defScope s_minute_of) s.heap.objs.size f cdv))) : PDb (tb K) (cxOf (L2.CX P w) P w (tb K).K mg base N_minute_of "minute_of" (defScope s_minute_of) f cdv A outer s H E) (defBody s_minute_of) g_minute_of :=
  (b_cons (s_if (PDw.t (w_or (t_not (t_val (d_callB (fun _ _ => call_isA) (db_isA Tx.xt) Tx.f_isinstance (by decide +kernel) (a_cons (d_var 0) (a_cons (d_ty "str" Tx.f_str (by decide +kernel)) a_nil))))) (w_or (t_cmp (fun _ _ => op_neA hr.units) do_ne (d_callB (fun _ _ => call_len) db_len Tx.f_len (by decide +kernel) (a_cons (d_var 0) a_nil)) d_int (nomark _)) (w_or (t_cmp (fun _ _ => op_neA hr.units) do_ne (d_ix (d_var 0) d_int) (d_str [58] (by decide +kernel)) (nomark _)) (w_or1 (t_not (t_val (d_call c_are_figures (a_cons (d_op (fun _ _ => op_addA) do_add (d_sl (d_var 0) o_none (o_some d_int)) (d_sl (d_var 0) (o_some d_int) o_none)) a_nil) hr)))))))) (b_one (s_raise 1 Tx.xt Tx.c_BadClock)) b_nil)
    (b_cons (s_set 1 sc_minute_of.nd (d_callT (fun _ _ => call_intA) db_int Tx.f_int (by decide +kernel) (a_cons (d_sl (d_var 0) o_none (o_some d_int)) a_nil)))
    (b_cons (s_set 2 sc_minute_of.nd (d_callT (fun _ _ => call_intA) db_int Tx.f_int (by decide +kernel) (a_cons (d_sl (d_var 0) (o_some d_int) o_none) a_nil)))
    (b_cons (s_if (PDw.t (w_or (t_cmp (fun _ _ => op_gt) do_cmp (d_var 2) d_int (nomark _)) (w_or1 (t_cmp (fun _ _ => op_gt) do_cmp (d_op (fun _ _ => op_addA) do_add (d_op (fun _ _ => op_mulA) do_mulA d_int (d_var 1)) (d_var 2)) (d_glob (d := .int 2879) (v := .int 2879) (fun _ _ => by unfold Rp; rfl) Tx.k_LAST_MINUTE) (nomark _))))) (b_one (s_raise 1 Tx.xt Tx.c_BadClock)) b_nil)
    (b_one (s_ret (d_op (fun _ _ => op_addA) do_add (d_op (fun _ _ => op_mulA) do_mulA d_int (d_var 1)) (d_var 2))))))))
end
/-! ### moment_of -/
abbrev N_moment_of : List Str := ["day", "minute"]
def g_moment_of : DS :=
  (sSeq (sDrop (dCall f_need_among (aCons (dVar 0) (aCons (dC (.int 9999)) aNil))))
    (sSeq (sDrop (dCall f_need_among (aCons (dVar 1) (aCons (dOp oSub (dC (.int 1440)) (dC (.int 1))) aNil))))
    (sRet (dOp oAdd (dOp oMulA (dC (.int 1440)) (dVar 0)) (dVar 1)))))
def f_moment_of : List D → Sto → Res D := mkF 2 2 g_moment_of
theorem sc_moment_of : FnScope N_moment_of ["day", "minute"] (defScope s_moment_of) := ⟨rfl, rfl, rfl, by decide +kernel, rfl, by decide +kernel, by decide +kernel⟩
section
variable {P : Program} {w : World} {K : PySem.W.Frag} {mg : Str → Option Value} {base : Heap}
theorem b_moment_of (Tx : Txt K mg) (c_need_among : Cl (tb K) P w mg base "need_among" 2 2 f_need_among) {f : Addr} (cdv : Value) (A : Around) (outer : List PySem.Env) (s : Shared) (H : Hp) (E : XK) (hr : Room 2 (A.deeper (PyProof.Rows.envOfC "moment_of" (defScope s_moment_of) s.heap.objs.size f cdv))) : PDb (tb K) (cxOf (L2.CX P w) P w (tb K).K mg base N_moment_of "moment_of" (defScope s_moment_of) f cdv A outer s H E) (defBody s_moment_of) g_moment_of :=
  (b_cons (s_expr (d_call c_need_among (a_cons (d_var 0) (a_cons (d_glob (d := .int 9999) (v := .int 9999) (fun _ _ => by unfold Rp; rfl) Tx.k_LAST_DAY) a_nil)) hr))
    (b_cons (s_expr (d_call c_need_among (a_cons (d_var 1) (a_cons (d_op (fun _ _ => op_sub) do_sub (d_glob (d := .int 1440) (v := .int 1440) (fun _ _ => by unfold Rp; rfl) Tx.k_DAY) d_int) a_nil)) hr))
    (b_one (s_ret (d_op (fun _ _ => op_addA) do_add (d_op (fun _ _ => op_mulA) do_mulA (d_glob (d := .int 1440) (v := .int 1440) (fun _ _ => by unfold Rp; rfl) Tx.k_DAY) (d_var 0)) (d_var 1))))))
end
/-! ### day_and_minute -/
abbrev N_day_and_minute : List Str := ["moment", "day", "minute"]
def g_day_and_minute : DS :=
  (sSeq (sDrop (dCall f_need_among (aCons (dVar 0) (aCons (dC (.int 14399999)) aNil))))
    (sSeq (sAsg (dBi bDivmod (aCons (dVar 0) (aCons (dC (.int 1440)) aNil))) (tgT [(tgN 1), (tgN 2)]))
    (sRet (dTup (aCons (dVar 1) (aCons (dVar 2) aNil))))))
def f_day_and_minute : List D → Sto → Res D := mkF 3 1 g_day_and_minute
theorem sc_day_and_minute : FnScope N_day_and_minute ["moment"] (defScope s_day_and_minute) := ⟨rfl, rfl, rfl, by decide +kernel, rfl, by decide +kernel, by decide +kernel⟩
section
variable {P : Program} {w : World} {K : PySem.W.Frag} {mg : Str → Option Value} {base : Heap}
theorem b_day_and_minute (Tx : Txt K mg) (c_need_among : Cl (tb K) P w mg base "need_among" 2 2 f_need_among) {f : Addr} (cdv : Value) (A : Around) (outer : List PySem.Env) (s : Shared) (H : Hp) (E : XK) (hr : Room 2 (A.deeper (PyProof.Rows.envOfC "day_and_minute" (defScope s_day_and_minute) s.heap.objs.size f cdv))) : PDb (tb K) (cxOf (L2.CX P w) P w (tb K).K mg base N_day_and_minute "day_and_minute" (defScope s_day_and_minute) f cdv A outer s H E) (defBody s_day_and_minute) g_day_and_minute :=
  (b_cons (s_expr (d_call c_need_among (a_cons (d_var 0) (a_cons (d_glob (d := .int 14399999) (v := .int 14399999) (fun _ _ => by unfold Rp; rfl) Tx.k_LAST_MOMENT) a_nil)) hr))
    (b_cons (s_asg (d_callB (fun _ _ => call_divmod) db_divmod Tx.f_divmod (by decide +kernel) (a_cons (d_var 0) (a_cons (d_glob (d := .int 1440) (v := .int 1440) (fun _ _ => by unfold Rp; rfl) Tx.k_DAY) a_nil))) (g_tup (gs_cons (g_name 1 sc_day_and_minute.nd) (gs_cons (g_name 2 sc_day_and_minute.nd) gs_nil))))
    (b_one (s_ret (d_tup (a_cons (d_var 1) (a_cons (d_var 2) a_nil)))))))
end
/-! ### moment_text -/
abbrev N_moment_text : List Str := ["moment", "day", "minute", "clock"]
def g_moment_text : DS :=
  (sSeq (sAsg (dCall f_day_and_minute (aCons (dVar 0) aNil)) (tgT [(tgN 1), (tgN 2)]))
    (sSeq (sSet 3 (dCall f_clock_text (aCons (dVar 2) aNil)))
    (sRet (dJs [(dFmt (dVar 1)), (dC (.str [32])), (dFmt (dVar 3))] []))))
def f_moment_text : List D → Sto → Res D := mkF 4 1 g_moment_text
theorem sc_moment_text : FnScope N_moment_text ["moment"] (defScope s_moment_text) := ⟨rfl, rfl, rfl, by decide +kernel, rfl, by decide +kernel, by decide +kernel⟩
section
variable {P : Program} {w : World} {K : PySem.W.Frag} {mg : Str → Option Value} {base : Heap}
theorem b_moment_text (Tx : Txt K mg) (c_day_and_minute : Cl (tb K) P w mg base "day_and_minute" 3 1 f_day_and_minute) (c_clock_text : Cl (tb K) P w mg base "clock_text" 3 1 f_clock_text) {f : Addr} (cdv : Value) (A : Around) (outer : List PySem.Env) (s : Shared) (H : Hp) (E : XK) (hr : Room 3 (A.deeper (PyProof.Rows.envOfC "moment_text" (defScope s_moment_text) s.heap.objs.size f cdv))) : PDb (tb K) (cxOf (L2.CX P w) P w (tb K).K mg base N_moment_text "moment_text" (defScope s_moment_text) f cdv A outer s H E) (defBody s_moment_text) g_moment_text :=
  (b_cons (s_asg (d_call c_day_and_minute (a_cons (d_var 0) a_nil) hr) (g_tup (gs_cons (g_name 1 sc_moment_text.nd) (gs_cons (g_name 2 sc_moment_text.nd) gs_nil))))
    (b_cons (s_set 3 sc_moment_text.nd (d_call c_clock_text (a_cons (d_var 2) a_nil) hr))
    (b_one (s_ret (d_joined (PDj.cons (d_fmt (d_var 1)) (PDj.cons (d_str [32] (by decide +kernel)) (PDj.cons (d_fmt (d_var 3)) PDj.nil))))))))
end
/-! ### moment_by -/
abbrev N_moment_by : List Str := ["text", "word", "blank", "clock", "day"]
def g_moment_by : DS :=
  (sSeq (sIf (tNotD (tst (dBi (bIsA parT) (aCons (dVar 0) (aCons (dC (.ty "str")) aNil))))) (sRaise 1) sPass)
    (sSeq (sAsg (dMt "str" mPart (dVar 0) (aCons (dC (.str [32])) aNil)) (tgT [(tgN 1), (tgN 2), (tgN 3)]))
    (sSeq (sSet 4 (dCall f_number_of (aCons (dVar 1) aNil)))
    (sSeq (sIf (tst (dOp (oIs false) (dVar 4) (dC .non))) (sRaise 1) sPass)
    (sRet (dCall f_moment_of (aCons (dVar 4) (aCons (dCall f_minute_of (aCons (dVar 3) aNil)) aNil))))))))
def f_moment_by : List D → Sto → Res D := mkF 5 1 g_moment_by
theorem sc_moment_by : FnScope N_moment_by ["text"] (defScope s_moment_by) := ⟨rfl, rfl, rfl, by decide +kernel, rfl, by decide +kernel, by decide +kernel⟩
section
variable {P : Program} {w : World} {K : PySem.W.Frag} {mg : Str → Option Value} {base : Heap}
theorem b_moment_by (Tx : Txt K mg) (c_number_of : Cl (tb K) P w mg base "number_of" 2 1 f_number_of) (c_moment_of : Cl (tb K) P w mg base "moment_of" 3 2 f_moment_of) (c_minute_of : Cl (tb K) P w mg base "minute_of" 2 1 f_minute_of) {f : Addr} (cdv : Value) (A : Around) (outer : List PySem.Env) (s : Shared) (H : Hp) (E : XK) (hr : Room 3 (A.deeper (PyProof.Rows.envOfC "moment_by" (defScope s_moment_by) s.heap.objs.size f cdv))) : PDb (tb K) (cxOf (L2.CX P w) P w (tb K).K mg base N_moment_by "moment_by" (defScope s_moment_by) f cdv A outer s H E) (defBody s_moment_by) g_moment_by :=
  (b_cons (s_if (t_not (t_val (d_callB (fun _ _ => call_isA) (db_isA Tx.xt) Tx.f_isinstance (by decide +kernel) (a_cons (d_var 0) (a_cons (d_ty "str" Tx.f_str (by decide +kernel)) a_nil))))) (b_one (s_raise 1 Tx.xt Tx.c_BadClock)) b_nil)
    (b_cons (s_asg (d_mt PySem.F.plainAttrs_str PySem.F.slot_str_partition PySem.F.type_str_partition (fun _ _ => mt_partition) dm_part (d_var 0) (a_cons (d_str [32] (by decide +kernel)) a_nil)) (g_tup (gs_cons (g_name 1 sc_moment_by.nd) (gs_cons (g_name 2 sc_moment_by.nd) (gs_cons (g_name 3 sc_moment_by.nd) gs_nil)))))
    (b_cons (s_set 4 sc_moment_by.nd (d_call c_number_of (a_cons (d_var 1) a_nil) hr))
    (b_cons (s_if (t_cmp (fun _ _ => op_isN) do_is (d_var 4) d_non (nomark _)) (b_one (s_raise 1 Tx.xt Tx.c_BadClock)) b_nil)
    (b_one (s_ret (d_call c_moment_of (a_cons (d_var 4) (a_cons (d_call c_minute_of (a_cons (d_var 3) a_nil) hr) a_nil)) hr)))))))
end
/-! ### _law_cell -/
abbrev N__law_cell : List Str := ["_law_script", "_law_k"]
def g__law_cell : DS :=
  (sSeq (sIf (tst (dOp oEq (dVar 0) (dLst aNil))) (sRet (dC (.int 0))) sPass)
    (sRet (dOp oIx (dVar 0) (dOp oMod (dVar 1) (dBi bLen (aCons (dVar 0) aNil))))))
def f__law_cell : List D → Sto → Res D := mkF 2 2 g__law_cell
theorem sc__law_cell : FnScope N__law_cell ["_law_script", "_law_k"] (defScope s__law_cell) := ⟨rfl, rfl, rfl, by decide +kernel, rfl, by decide +kernel, by decide +kernel⟩
section
variable {P : Program} {w : World} {K : PySem.W.Frag} {mg : Str → Option Value} {base : Heap}
theorem b__law_cell (Tx : Txt K mg)  {f : Addr} (cdv : Value) (A : Around) (outer : List PySem.Env) (s : Shared) (H : Hp) (E : XK) (hr : Room 0 (A.deeper (PyProof.Rows.envOfC "_law_cell" (defScope s__law_cell) s.heap.objs.size f cdv))) : PDb (tb K) (cxOf (L2.CX P w) P w (tb K).K mg base N__law_cell "_law_cell" (defScope s__law_cell) f cdv A outer s H E) (defBody s__law_cell) g__law_cell :=
  (b_cons (s_if (t_cmp (fun _ _ => op_eqA hr.units) do_eq (d_var 0) (d_lst a_nil) (nomark _)) (b_one (s_ret d_int)) b_nil)
    (b_one (s_ret (d_ix (d_var 0) (d_op (fun _ _ => op_mod) do_mod (d_var 1) (d_callB (fun _ _ => call_len) db_len Tx.f_len (by decide +kernel) (a_cons (d_var 0) a_nil)))))))
end
/-! ### _law_draw -/
abbrev N__law_draw : List Str := ["_law_script", "_law_tape", "_law_many", "_law_number"]
def g__law_draw : DS :=
  (sSeq (sIxS (dOp oAdd (dOp oIx (dVar 1) (dC (.int 0))) (dC (.int 1))) (dVar 1) (dC (.int 0)))
    (sSeq (sSet 3 (dOp oAdd (dOp oAdd (dOp oMod (dCall f__law_cell (aCons (dVar 0) (aCons (dOp oSub (dOp oIx (dVar 1) (dC (.int 0))) (dC (.int 1))) aNil))) (dC (.int 1000000007))) (dOp oMulA (dC (.int 7919)) (dOp oIx (dVar 1) (dC (.int 0))))) (dC (.int 13))))
    (sRet (dOp oMod (dOp oDiv (dOp oMod (dOp oMulA (dOp oMod (dOp oMulA (dVar 3) (dVar 3)) (dC (.int 1000000007))) (dVar 3)) (dC (.int 998244353))) (dC (.int 11))) (dVar 2)))))
def f__law_draw : List D → Sto → Res D := mkF 4 3 g__law_draw
theorem sc__law_draw : FnScope N__law_draw ["_law_script", "_law_tape", "_law_many"] (defScope s__law_draw) := ⟨rfl, rfl, rfl, by decide +kernel, rfl, by decide +kernel, by decide +kernel⟩
section
variable {P : Program} {w : World} {K : PySem.W.Frag} {mg : Str → Option Value} {base : Heap}
theorem b__law_draw (Tx : Txt K mg) (c__law_cell : Cl (tb K) P w mg base "_law_cell" 1 2 f__law_cell) {f : Addr} (cdv : Value) (A : Around) (outer : List PySem.Env) (s : Shared) (H : Hp) (E : XK) (hr : Room 1 (A.deeper (PyProof.Rows.envOfC "_law_draw" (defScope s__law_draw) s.heap.objs.size f cdv))) : PDb (tb K) (cxOf (L2.CX P w) P w (tb K).K mg base N__law_draw "_law_draw" (defScope s__law_draw) f cdv A outer s H E) (defBody s__law_draw) g__law_draw :=
  (b_cons (s_ixS (d_op (fun _ _ => op_addA) do_add (d_ix (d_var 1) d_int) d_int) (d_var 1) d_int)
    (b_cons (s_set 3 sc__law_draw.nd (d_op (fun _ _ => op_addA) do_add (d_op (fun _ _ => op_addA) do_add (d_op (fun _ _ => op_mod) do_mod (d_call c__law_cell (a_cons (d_var 0) (a_cons (d_op (fun _ _ => op_sub) do_sub (d_ix (d_var 1) d_int) d_int) a_nil)) hr) d_int) (d_op (fun _ _ => op_mulA) do_mulA d_int (d_ix (d_var 1) d_int))) d_int))
    (b_one (s_ret (d_op (fun _ _ => op_mod) do_mod (d_op (fun _ _ => op_fdiv) do_div (d_op (fun _ _ => op_mod) do_mod (d_op (fun _ _ => op_mulA) do_mulA (d_op (fun _ _ => op_mod) do_mod (d_op (fun _ _ => op_mulA) do_mulA (d_var 3) (d_var 3)) d_int) (d_var 3)) d_int) d_int) (d_var 2))))))
end
/-! ### _law_whole -/
abbrev N__law_whole : List Str := ["_law_found"]
def g__law_whole : DS :=
  (sRet (dAndV (dBi (bIsA parT) (aCons (dVar 0) (aCons (dC (.ty "int")) aNil))) (dNotV (dBi (bIsA parT) (aCons (dVar 0) (aCons (dC (.ty "bool")) aNil))))))
def f__law_whole : List D → Sto → Res D := mkF 1 1 g__law_whole
theorem sc__law_whole : FnScope N__law_whole ["_law_found"] (defScope s__law_whole) := ⟨rfl, rfl, rfl, by decide +kernel, rfl, by decide +kernel, by decide +kernel⟩
section
variable {P : Program} {w : World} {K : PySem.W.Frag} {mg : Str → Option Value} {base : Heap}
theorem b__law_whole (Tx : Txt K mg)  {f : Addr} (cdv : Value) (A : Around) (outer : List PySem.Env) (s : Shared) (H : Hp) (E : XK) (hr : Room 0 (A.deeper (PyProof.Rows.envOfC "_law_whole" (defScope s__law_whole) s.heap.objs.size f cdv))) : PDb (tb K) (cxOf (L2.CX P w) P w (tb K).K mg base N__law_whole "_law_whole" (defScope s__law_whole) f cdv A outer s H E) (defBody s__law_whole) g__law_whole :=
  (b_one (s_ret (d_and (d_callB (fun _ _ => call_isA) (db_isA Tx.xt) Tx.f_isinstance (by decide +kernel) (a_cons (d_var 0) (a_cons (d_ty "int" Tx.f_int (by decide +kernel)) a_nil))) (d_one (d_not (d_callB (fun _ _ => call_isA) (db_isA Tx.xt) Tx.f_isinstance (by decide +kernel) (a_cons (d_var 0) (a_cons (d_ty "bool" Tx.f_bool (by decide +kernel)) a_nil))))))))
end
/-! ### _law_class -/
abbrev N__law_class : List Str := ["_law_error", "_law_words", "_law_found"]
def g__law_class : DS :=
  (sSeq (sSet 1 (dLst (aCons (dC (.str [99, 108, 111, 99, 107])) (aCons (dC (.str [114, 117, 108, 101])) (aCons (dC (.str [109, 97, 110, 121])) (aCons (dC (.str [110, 97, 109, 101])) (aCons (dC (.str [116, 119, 105, 99, 101])) (aCons (dC (.str [115, 116, 111, 112])) (aCons (dC (.str [110, 117, 109, 98, 101, 114])) aNil)))))))))
    (sSeq (sSet 1 (dOp oAdd (dVar 1) (dLst (aCons (dC (.str [99, 97, 108, 108, 115])) (aCons (dC (.str [114, 117, 110])) (aCons (dC (.str [108, 97, 116, 101])) (aCons (dC (.str [116, 114, 97, 118, 101, 108, 108, 101, 114])) (aCons (dC (.str [108, 105, 110, 101])) aNil))))))))
    (sSeq (sSet 2 (dLst (aCons (dBi (bIsA parT) (aCons (dVar 0) (aCons (dC (.cls 1)) aNil))) (aCons (dBi (bIsA parT) (aCons (dVar 0) (aCons (dC (.cls 2)) aNil))) (aCons (dBi (bIsA parT) (aCons (dVar 0) (aCons (dC (.cls 3)) aNil))) aNil)))))
    (sSeq (sSet 2 (dOp oAdd (dVar 2) (dLst (aCons (dBi (bIsA parT) (aCons (dVar 0) (aCons (dC (.cls 4)) aNil))) (aCons (dBi (bIsA parT) (aCons (dVar 0) (aCons (dC (.cls 5)) aNil))) (aCons (dBi (bIsA parT) (aCons (dVar 0) (aCons (dC (.cls 6)) aNil))) aNil))))))
    (sSeq (sSet 2 (dOp oAdd (dVar 2) (dLst (aCons (dBi (bIsA parT) (aCons (dVar 0) (aCons (dC (.cls 7)) aNil))) (aCons (dBi (bIsA parT) (aCons (dVar 0) (aCons (dC (.cls 8)) aNil))) (aCons (dBi (bIsA parT) (aCons (dVar 0) (aCons (dC (.cls 9)) aNil))) aNil))))))
    (sSeq (sSet 2 (dOp oAdd (dVar 2) (dLst (aCons (dBi (bIsA parT) (aCons (dVar 0) (aCons (dC (.cls 10)) aNil))) (aCons (dBi (bIsA parT) (aCons (dVar 0) (aCons (dC (.cls 11)) aNil))) (aCons (dBi (bIsA parT) (aCons (dVar 0) (aCons (dC (.cls 12)) aNil))) aNil))))))
    (sSeq (sIf (tOrD (tst (dOp oNe (dMt "list" mCount (dVar 2) (aCons (dC (.bl true)) aNil)) (dC (.int 1)))) (tNotD (tst (dBi (bIsA parT) (aCons (dVar 0) (aCons (dC (.ty "ValueError")) aNil)))))) (sRet (dC (.str [97, 110, 111, 116, 104, 101, 114]))) sPass)
    (sRet (dOp oIx (dVar 1) (dMt "list" mIndex (dVar 2) (aCons (dC (.bl true)) aNil)))))))))))
def f__law_class : List D → Sto → Res D := mkF 3 1 g__law_class
theorem sc__law_class : FnScope N__law_class ["_law_error"] (defScope s__law_class) := ⟨rfl, rfl, rfl, by decide +kernel, rfl, by decide +kernel, by decide +kernel⟩
section
variable {P : Program} {w : World} {K : PySem.W.Frag} {mg : Str → Option Value} {base : Heap}
theorem b__law_class (Tx : Txt K mg)  {f : Addr} (cdv : Value) (A : Around) (outer : List PySem.Env) (s : Shared) (H : Hp) (E : XK) (hr : Room 0 (A.deeper (PyProof.Rows.envOfC "_law_class" (defScope s__law_class) s.heap.objs.size f cdv))) : PDb (tb K) (cxOf (L2.CX P w) P w (tb K).K mg base N__law_class "_law_class" (defScope s__law_class) f cdv A outer s H E) (defBody s__law_class) g__law_class :=
  (b_cons (s_set 1 sc__law_class.nd (d_lst (a_cons (d_str [99, 108, 111, 99, 107] (by decide +kernel)) (a_cons (d_str [114, 117, 108, 101] (by decide +kernel)) (a_cons (d_str [109, 97, 110, 121] (by decide +kernel)) (a_cons (d_str [110, 97, 109, 101] (by decide +kernel)) (a_cons (d_str [116, 119, 105, 99, 101] (by decide +kernel)) (a_cons (d_str [115, 116, 111, 112] (by decide +kernel)) (a_cons (d_str [110, 117, 109, 98, 101, 114] (by decide +kernel)) a_nil)))))))))
    (b_cons (s_set 1 sc__law_class.nd (d_op (fun _ _ => op_addA) do_add (d_var 1) (d_lst (a_cons (d_str [99, 97, 108, 108, 115] (by decide +kernel)) (a_cons (d_str [114, 117, 110] (by decide +kernel)) (a_cons (d_str [108, 97, 116, 101] (by decide +kernel)) (a_cons (d_str [116, 114, 97, 118, 101, 108, 108, 101, 114] (by decide +kernel)) (a_cons (d_str [108, 105, 110, 101] (by decide +kernel)) a_nil))))))))
    (b_cons (s_set 2 sc__law_class.nd (d_lst (a_cons (d_callB (fun _ _ => call_isA) (db_isA Tx.xt) Tx.f_isinstance (by decide +kernel) (a_cons (d_var 0) (a_cons (d_cls 1 Tx.c_BadClock) a_nil))) (a_cons (d_callB (fun _ _ => call_isA) (db_isA Tx.xt) Tx.f_isinstance (by decide +kernel) (a_cons (d_var 0) (a_cons (d_cls 2 Tx.c_BadRule) a_nil))) (a_cons (d_callB (fun _ _ => call_isA) (db_isA Tx.xt) Tx.f_isinstance (by decide +kernel) (a_cons (d_var 0) (a_cons (d_cls 3 Tx.c_TooMany) a_nil))) a_nil)))))
    (b_cons (s_set 2 sc__law_class.nd (d_op (fun _ _ => op_addA) do_add (d_var 2) (d_lst (a_cons (d_callB (fun _ _ => call_isA) (db_isA Tx.xt) Tx.f_isinstance (by decide +kernel) (a_cons (d_var 0) (a_cons (d_cls 4 Tx.c_BadName) a_nil))) (a_cons (d_callB (fun _ _ => call_isA) (db_isA Tx.xt) Tx.f_isinstance (by decide +kernel) (a_cons (d_var 0) (a_cons (d_cls 5 Tx.c_Twice) a_nil))) (a_cons (d_callB (fun _ _ => call_isA) (db_isA Tx.xt) Tx.f_isinstance (by decide +kernel) (a_cons (d_var 0) (a_cons (d_cls 6 Tx.c_NoStop) a_nil))) a_nil))))))
    (b_cons (s_set 2 sc__law_class.nd (d_op (fun _ _ => op_addA) do_add (d_var 2) (d_lst (a_cons (d_callB (fun _ _ => call_isA) (db_isA Tx.xt) Tx.f_isinstance (by decide +kernel) (a_cons (d_var 0) (a_cons (d_cls 7 Tx.c_BadNumber) a_nil))) (a_cons (d_callB (fun _ _ => call_isA) (db_isA Tx.xt) Tx.f_isinstance (by decide +kernel) (a_cons (d_var 0) (a_cons (d_cls 8 Tx.c_BadCalls) a_nil))) (a_cons (d_callB (fun _ _ => call_isA) (db_isA Tx.xt) Tx.f_isinstance (by decide +kernel) (a_cons (d_var 0) (a_cons (d_cls 9 Tx.c_NoRun) a_nil))) a_nil))))))
    (b_cons (s_set 2 sc__law_class.nd (d_op (fun _ _ => op_addA) do_add (d_var 2) (d_lst (a_cons (d_callB (fun _ _ => call_isA) (db_isA Tx.xt) Tx.f_isinstance (by decide +kernel) (a_cons (d_var 0) (a_cons (d_cls 10 Tx.c_TooLate) a_nil))) (a_cons (d_callB (fun _ _ => call_isA) (db_isA Tx.xt) Tx.f_isinstance (by decide +kernel) (a_cons (d_var 0) (a_cons (d_cls 11 Tx.c_NoTraveller) a_nil))) (a_cons (d_callB (fun _ _ => call_isA) (db_isA Tx.xt) Tx.f_isinstance (by decide +kernel) (a_cons (d_var 0) (a_cons (d_cls 12 Tx.c_BadLine) a_nil))) a_nil))))))
    (b_cons (s_if (PDw.t (w_or (t_cmp (fun _ _ => op_neA hr.units) do_ne (d_mt PySem.F.plainAttrs_list PySem.F.slot_list_count PySem.F.type_list_count (fun _ _ => mt_lcntF) dm_count (d_var 2) (a_cons d_bl a_nil)) d_int (nomark _)) (w_or1 (t_not (t_val (d_callB (fun _ _ => call_isA) (db_isA Tx.xt) Tx.f_isinstance (by decide +kernel) (a_cons (d_var 0) (a_cons (d_ty "ValueError" Tx.f_ValueError (by decide +kernel)) a_nil)))))))) (b_one (s_ret (d_str [97, 110, 111, 116, 104, 101, 114] (by decide +kernel)))) b_nil)
    (b_one (s_ret (d_ix (d_var 1) (d_mt PySem.F.plainAttrs_list PySem.F.slot_list_index PySem.F.type_list_index (fun _ _ => mt_index) dm_index (d_var 2) (a_cons d_bl a_nil))))))))))))
end
/-! ### _law_written -/
abbrev N__law_written : List Str := ["_law_day", "_law_minute", "_law_figures", "_law_rest", "_law_clock"]
def g__law_written : DS :=
  (sSeq (sSet 2 (dC (.str [48, 49, 50, 51, 52, 53, 54, 55, 56, 57])))
    (sSeq (sSet 3 (dOp oMod (dVar 1) (dC (.int 60))))
    (sSeq (sSet 4 (dOp oAdd (dOp oAdd (dOp oIx (dVar 2) (dOp oDiv (dVar 1) (dC (.int 600)))) (dOp oIx (dVar 2) (dOp oMod (dOp oDiv (dVar 1) (dC (.int 60))) (dC (.int 10))))) (dC (.str [58]))))
    (sRet (dOp oAdd (dOp oAdd (dOp oAdd (dOp oAdd (dBi bStr (aCons (dVar 0) aNil)) (dC (.str [32]))) (dVar 4)) (dOp oIx (dVar 2) (dOp oDiv (dVar 3) (dC (.int 10))))) (dOp oIx (dVar 2) (dOp oMod (dVar 3) (dC (.int 10)))))))))
def f__law_written : List D → Sto → Res D := mkF 5 2 g__law_written
theorem sc__law_written : FnScope N__law_written ["_law_day", "_law_minute"] (defScope s__law_written) := ⟨rfl, rfl, rfl, by decide +kernel, rfl, by decide +kernel, by decide +kernel⟩
section
variable {P : Program} {w : World} {K : PySem.W.Frag} {mg : Str → Option Value} {base : Heap}
theorem b__law_written (Tx : Txt K mg)  {f : Addr} (cdv : Value) (A : Around) (outer : List PySem.Env) (s : Shared) (H : Hp) (E : XK) (hr : Room 0 (A.deeper (PyProof.Rows.envOfC "_law_written" (defScope s__law_written) s.heap.objs.size f cdv))) : PDb (tb K) (cxOf (L2.CX P w) P w (tb K).K mg base N__law_written "_law_written" (defScope s__law_written) f cdv A outer s H E) (defBody s__law_written) g__law_written :=
  (b_cons (s_set 2 sc__law_written.nd (d_str [48, 49, 50, 51, 52, 53, 54, 55, 56, 57] (by decide +kernel)))
    (b_cons (s_set 3 sc__law_written.nd (d_op (fun _ _ => op_mod) do_mod (d_var 1) d_int))
    (b_cons (s_set 4 sc__law_written.nd (d_op (fun _ _ => op_addA) do_add (d_op (fun _ _ => op_addA) do_add (d_ix (d_var 2) (d_op (fun _ _ => op_fdiv) do_div (d_var 1) d_int)) (d_ix (d_var 2) (d_op (fun _ _ => op_mod) do_mod (d_op (fun _ _ => op_fdiv) do_div (d_var 1) d_int) d_int))) (d_str [58] (by decide +kernel))))
    (b_one (s_ret (d_op (fun _ _ => op_addA) do_add (d_op (fun _ _ => op_addA) do_add (d_op (fun _ _ => op_addA) do_add (d_op (fun _ _ => op_addA) do_add (d_callT (fun _ _ => call_str_int) db_str Tx.f_str (by decide +kernel) (a_cons (d_var 0) a_nil)) (d_str [32] (by decide +kernel))) (d_var 4)) (d_ix (d_var 2) (d_op (fun _ _ => op_fdiv) do_div (d_var 3) d_int))) (d_ix (d_var 2) (d_op (fun _ _ => op_mod) do_mod (d_var 3) d_int))))))))
end
/-! ### _law_due -/
abbrev N__law_due : List Str := ["_law_text", "_law_figures", "_law_at", "_law_word", "_law_clock", "_law_sign"]
def g__law_due : DS :=
  (sSeq (sSet 1 (dC (.str [48, 49, 50, 51, 52, 53, 54, 55, 56, 57])))
    (sSeq (sSet 2 (dMt "str" mFind (dVar 0) (aCons (dC (.str [32])) aNil)))
    (sSeq (sSet 3 (dSl (dVar 0) pNone (pSome (dBi bMax2 (aCons (dC (.int 0)) (aCons (dVar 2) aNil))))))
    (sSeq (sSet 4 (dSl (dVar 0) (pSome (dOp oAdd (dVar 2) (dC (.int 1)))) pNone))
    (sSeq (sIf (tOrD (tst (dOp oLt (dVar 2) (dC (.int 1)))) (tOrD (tst (dOp oGt (dBi bLen (aCons (dVar 3) aNil)) (dC (.int 4)))) (tAndD (tst (dOp oEq (dOp oIx (dVar 3) (dC (.int 0))) (dC (.str [48])))) (tst (dOp oNe (dVar 3) (dC (.str [48]))))))) (sRet (dC .non)) sPass)
    (sSeq (sIf (tOrD (tst (dOp oNe (dBi bLen (aCons (dVar 4) aNil)) (dC (.int 5)))) (tst (dOp oNe (dOp oIx (dVar 4) (dC (.int 2))) (dC (.str [58]))))) (sRet (dC .non)) sPass)
    (sSeq (sIf (tNotD (tst (dBi bAll (aCons (dLc (itAny (dOp oAdd (dOp oAdd (dVar 3) (dSl (dVar 4) pNone (pSome (dC (.int 2))))) (dSl (dVar 4) (pSome (dC (.int 3))) pNone))) (tgN 5) cYes (dOp (oInA false) (dVar 5) (dVar 1)) [5]) aNil)))) (sRet (dC .non)) sPass)
    (sSeq (sIf (tOrD (tst (dOp oGt (dBi bInt (aCons (dSl (dVar 4) pNone (pSome (dC (.int 2)))) aNil)) (dC (.int 23)))) (tst (dOp oGt (dBi bInt (aCons (dSl (dVar 4) (pSome (dC (.int 3))) pNone) aNil)) (dC (.int 59))))) (sRet (dC .non)) sPass)
    (sRet (dOp oAdd (dOp oAdd (dOp oMulA (dC (.int 1440)) (dBi bInt (aCons (dVar 3) aNil))) (dOp oMulA (dC (.int 60)) (dBi bInt (aCons (dSl (dVar 4) pNone (pSome (dC (.int 2)))) aNil)))) (dBi bInt (aCons (dSl (dVar 4) (pSome (dC (.int 3))) pNone) aNil))))))))))))
def f__law_due : List D → Sto → Res D := mkF 6 1 g__law_due
theorem sc__law_due : FnScope N__law_due ["_law_text"] (defScope s__law_due) := ⟨rfl, rfl, rfl, by decide +kernel, rfl, by decide +kernel, by decide +kernel⟩
section
variable {P : Program} {w : World} {K : PySem.W.Frag} {mg : Str → Option Value} {base : Heap}
theorem b__law_due (Tx : Txt K mg)  {f : Addr} (cdv : Value) (A : Around) (outer : List PySem.Env) (s : Shared) (H : Hp) (E : XK) (hr : Room 0 (A.deeper (PyProof.Rows.envOfC "_law_due" (defScope s__law_due) s.heap.objs.size f cdv))) : PDb (tb K) (cxOf (L2.CX P w) P w (tb K).K mg base N__law_due "_law_due" (defScope s__law_due) f cdv A outer s H E) (defBody s__law_due) g__law_due :=
  (b_cons (s_set 1 sc__law_due.nd (d_str [48, 49, 50, 51, 52, 53, 54, 55, 56, 57] (by decide +kernel)))
    (b_cons (s_set 2 sc__law_due.nd (d_mt PySem.F.plainAttrs_str PySem.F.slot_str_find PySem.F.type_str_find (fun _ _ => mt_find) dm_find (d_var 0) (a_cons (d_str [32] (by decide +kernel)) a_nil)))
    (b_cons (s_set 3 sc__law_due.nd (d_sl (d_var 0) o_none (o_some (d_callB (fun _ _ => call_max2 rfl) db_2I Tx.f_max (by decide +kernel) (a_cons d_int (a_cons (d_var 2) a_nil))))))
    (b_cons (s_set 4 sc__law_due.nd (d_sl (d_var 0) (o_some (d_op (fun _ _ => op_addA) do_add (d_var 2) d_int)) o_none))
    (b_cons (s_if (PDw.t (w_or (t_cmp (fun _ _ => op_lt) do_cmp (d_var 2) d_int (nomark _)) (w_or (t_cmp (fun _ _ => op_gt) do_cmp (d_callB (fun _ _ => call_len) db_len Tx.f_len (by decide +kernel) (a_cons (d_var 3) a_nil)) d_int (nomark _)) (w_or1 (PDw.t (w_and (t_cmp (fun _ _ => op_eqA hr.units) do_eq (d_ix (d_var 3) d_int) (d_str [48] (by decide +kernel)) (nomark _)) (w_and1 (t_cmp (fun _ _ => op_neA hr.units) do_ne (d_var 3) (d_str [48] (by decide +kernel)) (nomark _))))))))) (b_one (s_ret d_non)) b_nil)
    (b_cons (s_if (PDw.t (w_or (t_cmp (fun _ _ => op_neA hr.units) do_ne (d_callB (fun _ _ => call_len) db_len Tx.f_len (by decide +kernel) (a_cons (d_var 4) a_nil)) d_int (nomark _)) (w_or1 (t_cmp (fun _ _ => op_neA hr.units) do_ne (d_ix (d_var 4) d_int) (d_str [58] (by decide +kernel)) (nomark _))))) (b_one (s_ret d_non)) b_nil)
    (b_cons (s_if (t_not (t_val (d_callB (fun _ _ => cr_all rfl) db_all Tx.f_all (by decide +kernel) (a_cons (d_lc (own := [("_law_sign", 5)]) sc__law_due.nd (i_any (d_op (fun _ _ => op_addA) do_add (d_op (fun _ _ => op_addA) do_add (d_var 3) (d_sl (d_var 4) o_none (o_some d_int))) (d_sl (d_var 4) (o_some d_int) o_none))) (blkOk_by (sc := defScope s__law_due) (N := N__law_due) (by decide +kernel)) (fun _ _ _ _ _ => (g_name 5 sc__law_due.nd)) (fun _ _ _ _ _ => ts_nil) (fun _ _ _ _ _ => (d_cmp (fun _ _ => op_inA) do_inA (d_var 5) (d_var 1) (by rfl)))) a_nil)))) (b_one (s_ret d_non)) b_nil)
    (b_cons (s_if (PDw.t (w_or (t_cmp (fun _ _ => op_gt) do_cmp (d_callT (fun _ _ => call_intA) db_int Tx.f_int (by decide +kernel) (a_cons (d_sl (d_var 4) o_none (o_some d_int)) a_nil)) d_int (nomark _)) (w_or1 (t_cmp (fun _ _ => op_gt) do_cmp (d_callT (fun _ _ => call_intA) db_int Tx.f_int (by decide +kernel) (a_cons (d_sl (d_var 4) (o_some d_int) o_none) a_nil)) d_int (nomark _))))) (b_one (s_ret d_non)) b_nil)
    (b_one (s_ret (d_op (fun _ _ => op_addA) do_add (d_op (fun _ _ => op_addA) do_add (d_op (fun _ _ => op_mulA) do_mulA d_int (d_callT (fun _ _ => call_intA) db_int Tx.f_int (by decide +kernel) (a_cons (d_var 3) a_nil))) (d_op (fun _ _ => op_mulA) do_mulA d_int (d_callT (fun _ _ => call_intA) db_int Tx.f_int (by decide +kernel) (a_cons (d_sl (d_var 4) o_none (o_some d_int)) a_nil)))) (d_callT (fun _ _ => call_intA) db_int Tx.f_int (by decide +kernel) (a_cons (d_sl (d_var 4) (o_some d_int) o_none) a_nil)))))))))))))
end
/-! ### _law_told -/
abbrev N__law_told : List Str := ["_law_which", "_law_thing", "_law_minute", "_law_caught", "_law_error"]
def g__law_told_b1 : DS :=
  (sSeq (sIf (tst (dOp oEq (dVar 0) (dC (.int 0)))) (sRet (dCall f_moment_of (aCons (dVar 1) (aCons (dVar 2) aNil)))) sPass)
    (sSeq (sIf (tst (dOp oEq (dVar 0) (dC (.int 1)))) (sRet (dCall f_day_and_minute (aCons (dVar 1) aNil))) sPass)
    (sSeq (sIf (tst (dOp oEq (dVar 0) (dC (.int 2)))) (sRet (dCall f_moment_text (aCons (dVar 1) aNil))) sPass)
    (sRet (dCall f_moment_by (aCons (dVar 1) aNil))))))
def g__law_told : DS :=
  (sSeq (sSet 3 (dC .non))
    (sSeq (sTry (ancO parT) 0 (some 4) g__law_told_b1 (sSet 3 (dVar 4)))
    (sRet (dLst (aCons (dCall f__law_class (aCons (dVar 3) aNil)) aNil)))))
def f__law_told : List D → Sto → Res D := mkF 5 3 g__law_told
theorem sc__law_told : FnScope N__law_told ["_law_which", "_law_thing", "_law_minute"] (defScope s__law_told) := ⟨rfl, rfl, rfl, by decide +kernel, rfl, by decide +kernel, by decide +kernel⟩
section
variable {P : Program} {w : World} {K : PySem.W.Frag} {mg : Str → Option Value} {base : Heap}
theorem b__law_told (Tx : Txt K mg) (c_moment_of : Cl (tb K) P w mg base "moment_of" 3 2 f_moment_of) (c_day_and_minute : Cl (tb K) P w mg base "day_and_minute" 3 1 f_day_and_minute) (c_moment_text : Cl (tb K) P w mg base "moment_text" 4 1 f_moment_text) (c_moment_by : Cl (tb K) P w mg base "moment_by" 4 1 f_moment_by) (c__law_class : Cl (tb K) P w mg base "_law_class" 1 1 f__law_class) {f : Addr} (cdv : Value) (A : Around) (outer : List PySem.Env) (s : Shared) (H : Hp) (E : XK) (hr : Room 4 (A.deeper (PyProof.Rows.envOfC "_law_told" (defScope s__law_told) s.heap.objs.size f cdv))) : PDb (tb K) (cxOf (L2.CX P w) P w (tb K).K mg base N__law_told "_law_told" (defScope s__law_told) f cdv A outer s H E) (defBody s__law_told) g__law_told :=
  (b_cons (s_set 3 sc__law_told.nd d_non)
    (b_cons (s_tryA 0 4 Tx.xt sc__law_told.nd Tx.c_RoadError (b_cons (s_if (t_cmp (fun _ _ => op_eqA hr.units) do_eq (d_var 0) d_int (nomark _)) (b_one (s_ret (d_call c_moment_of (a_cons (d_var 1) (a_cons (d_var 2) a_nil)) hr))) b_nil)
    (b_cons (s_if (t_cmp (fun _ _ => op_eqA hr.units) do_eq (d_var 0) d_int (nomark _)) (b_one (s_ret (d_call c_day_and_minute (a_cons (d_var 1) a_nil) hr))) b_nil)
    (b_cons (s_if (t_cmp (fun _ _ => op_eqA hr.units) do_eq (d_var 0) d_int (nomark _)) (b_one (s_ret (d_call c_moment_text (a_cons (d_var 1) a_nil) hr))) b_nil)
    (b_one (s_ret (d_call c_moment_by (a_cons (d_var 1) a_nil) hr)))))) (fun _ _ => (b_one (s_set 3 sc__law_told.nd (d_var 4)))))
    (b_one (s_ret (d_lst (a_cons (d_call c__law_class (a_cons (d_var 3) a_nil) hr) a_nil))))))
end
/-! ### _law_changed -/
abbrev N__law_changed : List Str := ["_law_script", "_law_tape", "_law_text", "_law_at", "_law_sign", "_law_some"]
def g__law_changed : DS :=
  (sSeq (sSet 3 (dCall f__law_draw (aCons (dVar 0) (aCons (dVar 1) (aCons (dBi bLen (aCons (dVar 2) aNil)) aNil)))))
    (sSeq (sSet 4 (dOp oIx (dC (.str [48, 49, 50, 51, 52, 53, 54, 55, 56, 57, 58, 59, 45, 32, 46, 47, 97])) (dCall f__law_draw (aCons (dVar 0) (aCons (dVar 1) (aCons (dC (.int 17)) aNil))))))
    (sSeq (sSet 5 (dLst (aCons (dOp oAdd (dOp oAdd (dSl (dVar 2) pNone (pSome (dVar 3))) (dVar 4)) (dSl (dVar 2) (pSome (dOp oAdd (dVar 3) (dC (.int 1)))) pNone)) (aCons (dOp oAdd (dOp oAdd (dSl (dVar 2) pNone (pSome (dVar 3))) (dVar 4)) (dSl (dVar 2) (pSome (dVar 3)) pNone)) (aCons (dOp oAdd (dSl (dVar 2) pNone (pSome (dVar 3))) (dSl (dVar 2) (pSome (dOp oAdd (dVar 3) (dC (.int 1)))) pNone)) aNil)))))
    (sSeq (sSet 5 (dOp oAdd (dVar 5) (dLst (aCons (dOp oAdd (dC (.str [32])) (dVar 2)) (aCons (dOp oAdd (dVar 2) (dC (.str [32]))) (aCons (dRepl (S [32]) (S [32, 32]) (dVar 2)) (aCons (dOp oAdd (dC (.str [48])) (dVar 2)) (aCons (dC (.str [49, 48, 48, 48, 48, 32, 48, 48, 58, 48, 48])) aNil))))))))
    (sSeq (sSet 5 (dOp oAdd (dVar 5) (dLst (aCons (dC (.str [57, 57, 57, 57, 57, 32, 48, 48, 58, 48, 48])) (aCons (dC (.str [53, 32, 50, 52, 58, 48, 48])) (aCons (dC (.str [53, 32, 50, 51, 58, 54, 48])) (aCons (dC (.str [57, 57, 57, 57, 32, 50, 51, 58, 53, 57])) (aCons (dC (.str [48, 48, 32, 48, 48, 58, 48, 48])) (aCons (dC (.str [53])) (aCons (dC (.str [32, 48, 48, 58, 48, 48])) (aCons (dC (.str [49, 50, 51, 52, 53, 54, 32, 48, 48, 58, 48, 48])) aNil)))))))))))
    (sRet (dOp oIx (dVar 5) (dCall f__law_draw (aCons (dVar 0) (aCons (dVar 1) (aCons (dC (.int 16)) aNil)))))))))))
def f__law_changed : List D → Sto → Res D := mkF 6 3 g__law_changed
theorem sc__law_changed : FnScope N__law_changed ["_law_script", "_law_tape", "_law_text"] (defScope s__law_changed) := ⟨rfl, rfl, rfl, by decide +kernel, rfl, by decide +kernel, by decide +kernel⟩
section
variable {P : Program} {w : World} {K : PySem.W.Frag} {mg : Str → Option Value} {base : Heap}
theorem b__law_changed (Tx : Txt K mg) (c__law_draw : Cl (tb K) P w mg base "_law_draw" 2 3 f__law_draw) {f : Addr} (cdv : Value) (A : Around) (outer : List PySem.Env) (s : Shared) (H : Hp) (E : XK) (hr : Room 2 (A.deeper (PyProof.Rows.envOfC "_law_changed" (defScope s__law_changed) s.heap.objs.size f cdv))) : PDb (tb K) (cxOf (L2.CX P w) P w (tb K).K mg base N__law_changed "_law_changed" (defScope s__law_changed) f cdv A outer s H E) (defBody s__law_changed) g__law_changed :=
  (b_cons (s_set 3 sc__law_changed.nd (d_call c__law_draw (a_cons (d_var 0) (a_cons (d_var 1) (a_cons (d_callB (fun _ _ => call_len) db_len Tx.f_len (by decide +kernel) (a_cons (d_var 2) a_nil)) a_nil))) hr))
    (b_cons (s_set 4 sc__law_changed.nd (d_ix (d_str [48, 49, 50, 51, 52, 53, 54, 55, 56, 57, 58, 59, 45, 32, 46, 47, 97] (by decide +kernel)) (d_call c__law_draw (a_cons (d_var 0) (a_cons (d_var 1) (a_cons d_int a_nil))) hr)))
    (b_cons (s_set 5 sc__law_changed.nd (d_lst (a_cons (d_op (fun _ _ => op_addA) do_add (d_op (fun _ _ => op_addA) do_add (d_sl (d_var 2) o_none (o_some (d_var 3))) (d_var 4)) (d_sl (d_var 2) (o_some (d_op (fun _ _ => op_addA) do_add (d_var 3) d_int)) o_none)) (a_cons (d_op (fun _ _ => op_addA) do_add (d_op (fun _ _ => op_addA) do_add (d_sl (d_var 2) o_none (o_some (d_var 3))) (d_var 4)) (d_sl (d_var 2) (o_some (d_var 3)) o_none)) (a_cons (d_op (fun _ _ => op_addA) do_add (d_sl (d_var 2) o_none (o_some (d_var 3))) (d_sl (d_var 2) (o_some (d_op (fun _ _ => op_addA) do_add (d_var 3) d_int)) o_none)) a_nil)))))
    (b_cons (s_set 5 sc__law_changed.nd (d_op (fun _ _ => op_addA) do_add (d_var 5) (d_lst (a_tok (k_op (fun _ _ => op_addA) do_add (k_str [32] (by decide +kernel)) (d_var 2)) (aT_cons (eT_of (d_op (fun _ _ => op_addA) do_add (d_var 2) (d_str [32] (by decide +kernel)))) (aT_cons (eT_repl (d_var 2)) (aT_cons (eT_of (d_op (fun _ _ => op_addA) do_add (d_str [48] (by decide +kernel)) (d_var 2))) (aT_cons (eT_of (d_str [49, 48, 48, 48, 48, 32, 48, 48, 58, 48, 48] (by decide +kernel))) aT_nil))))))))
    (b_cons (s_set 5 sc__law_changed.nd (d_op (fun _ _ => op_addA) do_add (d_var 5) (d_lst (a_cons (d_str [57, 57, 57, 57, 57, 32, 48, 48, 58, 48, 48] (by decide +kernel)) (a_cons (d_str [53, 32, 50, 52, 58, 48, 48] (by decide +kernel)) (a_cons (d_str [53, 32, 50, 51, 58, 54, 48] (by decide +kernel)) (a_cons (d_str [57, 57, 57, 57, 32, 50, 51, 58, 53, 57] (by decide +kernel)) (a_cons (d_str [48, 48, 32, 48, 48, 58, 48, 48] (by decide +kernel)) (a_cons (d_str [53] (by decide +kernel)) (a_cons (d_str [32, 48, 48, 58, 48, 48] (by decide +kernel)) (a_cons (d_str [49, 50, 51, 52, 53, 54, 32, 48, 48, 58, 48, 48] (by decide +kernel)) a_nil)))))))))))
    (b_one (s_ret (d_ix (d_var 5) (d_call c__law_draw (a_cons (d_var 0) (a_cons (d_var 1) (a_cons d_int a_nil))) hr)))))))))
end
/-! ### _law_right -/
abbrev N__law_right : List Str := ["_law_day", "_law_minute", "_law_moment", "_law_pair", "_law_text", "_law_one"]
def g__law_right : DS :=
  (sSeq (sSet 2 (dCall f__law_told (aCons (dC (.int 0)) (aCons (dVar 0) (aCons (dVar 1) aNil)))))
    (sSeq (sIf (tOrD (tNotD (tst (dCall f__law_whole (aCons (dVar 2) aNil)))) (tst (dOp oNe (dVar 2) (dOp oAdd (dOp oMulA (dC (.int 1440)) (dVar 0)) (dVar 1))))) (sRet (dC (.bl false))) sPass)
    (sSeq (sSet 3 (dCall f__law_told (aCons (dC (.int 1)) (aCons (dVar 2) (aCons (dC (.int 0)) aNil)))))
    (sSeq (sIf (tOrD (tNotD (tst (dBi (bIsA parT) (aCons (dVar 3) (aCons (dC (.ty "tuple")) aNil))))) (tOrD (tst (dOp oNe (dVar 3) (dTup (aCons (dVar 0) (aCons (dVar 1) aNil))))) (tNotD (tst (dBi bAll (aCons (dLc (itAny (dVar 3)) (tgN 5) cYes (dCall f__law_whole (aCons (dVar 5) aNil)) [5]) aNil)))))) (sRet (dC (.bl false))) sPass)
    (sSeq (sSet 4 (dCall f__law_written (aCons (dVar 0) (aCons (dVar 1) aNil))))
    (sRet (dAndV (dOp oEq (dCall f__law_told (aCons (dC (.int 2)) (aCons (dVar 2) (aCons (dC (.int 0)) aNil)))) (dVar 4)) (dOp oEq (dCall f__law_told (aCons (dC (.int 3)) (aCons (dVar 4) (aCons (dC (.int 0)) aNil)))) (dVar 2)))))))))
def f__law_right : List D → Sto → Res D := mkF 6 2 g__law_right
theorem sc__law_right : FnScope N__law_right ["_law_day", "_law_minute"] (defScope s__law_right) := ⟨rfl, rfl, rfl, by decide +kernel, rfl, by decide +kernel, by decide +kernel⟩
section
variable {P : Program} {w : World} {K : PySem.W.Frag} {mg : Str → Option Value} {base : Heap}
theorem b__law_right (Tx : Txt K mg) (c__law_told : Cl (tb K) P w mg base "_law_told" 5 3 f__law_told) (c__law_whole : Cl (tb K) P w mg base "_law_whole" 1 1 f__law_whole) (c__law_written : Cl (tb K) P w mg base "_law_written" 1 2 f__law_written) {f : Addr} (cdv : Value) (A : Around) (outer : List PySem.Env) (s : Shared) (H : Hp) (E : XK) (hr : Room 5 (A.deeper (PyProof.Rows.envOfC "_law_right" (defScope s__law_right) s.heap.objs.size f cdv))) : PDb (tb K) (cxOf (L2.CX P w) P w (tb K).K mg base N__law_right "_law_right" (defScope s__law_right) f cdv A outer s H E) (defBody s__law_right) g__law_right :=
  (b_cons (s_set 2 sc__law_right.nd (d_call c__law_told (a_cons d_int (a_cons (d_var 0) (a_cons (d_var 1) a_nil))) hr))
    (b_cons (s_if (PDw.t (w_or (t_not (t_val (d_call c__law_whole (a_cons (d_var 2) a_nil) hr))) (w_or1 (t_cmp (fun _ _ => op_neA hr.units) do_ne (d_var 2) (d_op (fun _ _ => op_addA) do_add (d_op (fun _ _ => op_mulA) do_mulA d_int (d_var 0)) (d_var 1)) (nomark _))))) (b_one (s_ret d_bl)) b_nil)
    (b_cons (s_set 3 sc__law_right.nd (d_call c__law_told (a_cons d_int (a_cons (d_var 2) (a_cons d_int a_nil))) hr))
    (b_cons (s_if (PDw.t (w_or (t_not (t_val (d_callB (fun _ _ => call_isA) (db_isA Tx.xt) Tx.f_isinstance (by decide +kernel) (a_cons (d_var 3) (a_cons (d_ty "tuple" Tx.f_tuple (by decide +kernel)) a_nil))))) (w_or (t_cmp (fun _ _ => op_neA hr.units) do_ne (d_var 3) (d_tup (a_cons (d_var 0) (a_cons (d_var 1) a_nil))) (nomark _)) (w_or1 (t_not (t_val (d_callB (fun _ _ => cr_all rfl) db_all Tx.f_all (by decide +kernel) (a_cons (d_lc (own := [("_law_one", 5)]) sc__law_right.nd (i_any (d_var 3)) (blkOk_by (sc := defScope s__law_right) (N := N__law_right) (by decide +kernel)) (fun _ _ _ _ _ => (g_name 5 sc__law_right.nd)) (fun _ _ _ _ _ => ts_nil) (fun _ _ _ _ _ => (d_call c__law_whole (a_cons (d_var 5) a_nil) hr))) a_nil)))))))) (b_one (s_ret d_bl)) b_nil)
    (b_cons (s_set 4 sc__law_right.nd (d_call c__law_written (a_cons (d_var 0) (a_cons (d_var 1) a_nil)) hr))
    (b_one (s_ret (d_and (d_cmp (fun _ _ => op_eqA hr.units) do_eq (d_call c__law_told (a_cons d_int (a_cons (d_var 2) (a_cons d_int a_nil))) hr) (d_var 4) (nomark _)) (d_one (d_cmp (fun _ _ => op_eqA hr.units) do_eq (d_call c__law_told (a_cons d_int (a_cons (d_var 4) (a_cons d_int a_nil))) hr) (d_var 2) (nomark _)))))))))))
end
/-! ### law -/
abbrev N_law : List Str := ["_law_script", "_law_tape", "_law_k", "_law_day", "_law_minute", "_law_other", "_law_due_here", "_law_found", "_law_number", "_law_odd", "_law_moment", "_law_thing", "_law_told_here"]
def g_law_b1 : DS :=
  (sSeq (sSet 3 (dOp oIx (dLst (aCons (dC (.int 0)) (aCons (dC (.int 9999)) (aCons (dC (.int 9)) (aCons (dC (.int 10)) (aCons (dC (.int 99)) (aCons (dC (.int 100)) (aCons (dC (.int 999)) (aCons (dC (.int 1000)) (aCons (dCall f__law_draw (aCons (dVar 0) (aCons (dVar 1) (aCons (dC (.int 10000)) aNil)))) aNil)))))))))) (dCall f__law_draw (aCons (dVar 0) (aCons (dVar 1) (aCons (dC (.int 9)) aNil))))))
    (sSeq (sSet 4 (dOp oIx (dLst (aCons (dC (.int 0)) (aCons (dC (.int 1439)) (aCons (dC (.int 59)) (aCons (dC (.int 60)) (aCons (dCall f__law_draw (aCons (dVar 0) (aCons (dVar 1) (aCons (dC (.int 1440)) aNil)))) aNil)))))) (dCall f__law_draw (aCons (dVar 0) (aCons (dVar 1) (aCons (dC (.int 5)) aNil))))))
    (sSeq (sIf (tNotD (tst (dCall f__law_right (aCons (dVar 3) (aCons (dVar 4) aNil))))) (sRet (dC (.bl false))) sPass)
    (sSeq (sSet 5 (dCall f__law_changed (aCons (dVar 0) (aCons (dVar 1) (aCons (dCall f__law_written (aCons (dVar 3) (aCons (dVar 4) aNil))) aNil)))))
    (sSeq (sSet 6 (dCall f__law_due (aCons (dVar 5) aNil)))
    (sSeq (sSet 7 (dCall f__law_told (aCons (dC (.int 3)) (aCons (dVar 5) (aCons (dC (.int 0)) aNil)))))
    (sIf (tOrD (tAndD (tst (dOp (oIs false) (dVar 6) (dC .non))) (tst (dOp oNe (dVar 7) (dLst (aCons (dC (.str [99, 108, 111, 99, 107])) aNil))))) (tAndD (tst (dOp (oIs true) (dVar 6) (dC .non))) (tOrD (tst (dOp oNe (dVar 7) (dVar 6))) (tNotD (tst (dCall f__law_whole (aCons (dVar 7) aNil))))))) (sRet (dC (.bl false))) sPass)))))))
def g_law : DS :=
  (sSeq (sSet 1 (dLstC (aCons (dC (.int 0)) aNil)))
    (sSeq (sFor (itR1 (aCons (dC (.int 6)) aNil)) (tgN 2) g_law_b1)
    (sSeq (sSet 8 (dCall f__law_draw (aCons (dVar 0) (aCons (dVar 1) (aCons (dOp oPow (dC (.int 10)) (dC (.int 9))) aNil)))))
    (sSeq (sSet 9 (dOp oIx (dLst (aCons (dUn (fun i => -i) (dC (.int 1))) (aCons (dC (.bl true)) (aCons (dC .non) (aCons (dC (.str [53])) (aCons (dLst (aCons (dC (.int 5)) aNil)) (aCons (dC (.dct [] [])) (aCons (dC (.bl false)) (aCons (dTup (aCons (dC (.int 5)) aNil)) (aCons (dOp oPow (dC (.int 10)) (dC (.int 20))) aNil)))))))))) (dOp oMod (dVar 8) (dC (.int 9)))))
    (sSeq (sSet 3 (dOp oIx (dLst (aCons (dC (.int 10000)) (aCons (dVar 9) aNil))) (dOp oMod (dOp oDiv (dVar 8) (dC (.int 9))) (dC (.int 2)))))
    (sSeq (sSet 4 (dOp oIx (dLst (aCons (dC (.int 1440)) (aCons (dVar 9) (aCons (dC (.int 2879)) aNil)))) (dOp oMod (dOp oDiv (dVar 8) (dC (.int 18))) (dC (.int 3)))))
    (sSeq (sSet 10 (dOp oIx (dLst (aCons (dC (.int 14400000)) (aCons (dVar 9) aNil))) (dOp oMod (dOp oDiv (dVar 8) (dC (.int 54))) (dC (.int 2)))))
    (sSeq (sSet 11 (dOp oIx (dLst (aCons (dC (.int 5)) (aCons (dC .non) (aCons (dC (.bl true)) (aCons (dLst (aCons (dC (.str [48, 32, 48, 48, 58, 48, 48])) aNil)) (aCons (dC (.dct [] [])) (aCons (dTup (aCons (dC (.str [48])) (aCons (dC (.str [48, 48, 58, 48, 48])) aNil))) aNil))))))) (dOp oMod (dOp oDiv (dVar 8) (dC (.int 108))) (dC (.int 6)))))
    (sSeq (sSet 12 (dLst (aCons (dCall f__law_told (aCons (dC (.int 0)) (aCons (dVar 3) (aCons (dC (.int 0)) aNil)))) (aCons (dCall f__law_told (aCons (dC (.int 0)) (aCons (dC (.int 9999)) (aCons (dVar 4) aNil)))) (aCons (dCall f__law_told (aCons (dC (.int 1)) (aCons (dVar 10) (aCons (dC (.int 0)) aNil)))) (aCons (dCall f__law_told (aCons (dC (.int 2)) (aCons (dVar 10) (aCons (dC (.int 0)) aNil)))) aNil))))))
    (sRet (dOp oEq (dOp oAdd (dVar 12) (dLst (aCons (dCall f__law_told (aCons (dC (.int 3)) (aCons (dVar 11) (aCons (dC (.int 0)) aNil)))) (aCons (dCall f__law_told (aCons (dC (.int 0)) (aCons (dVar 3) (aCons (dVar 4) aNil)))) aNil)))) (dOp oMulA (dLst (aCons (dLst (aCons (dC (.str [99, 108, 111, 99, 107])) aNil)) aNil)) (dC (.int 6))))))))))))))
def f_law : List D → Sto → Res D := mkF 13 1 g_law
theorem sc_law : FnScope N_law ["_law_script"] (defScope s_law) := ⟨rfl, rfl, rfl, by decide +kernel, rfl, by decide +kernel, by decide +kernel⟩
section
variable {P : Program} {w : World} {K : PySem.W.Frag} {mg : Str → Option Value} {base : Heap}
theorem b_law (Tx : Txt K mg) (c__law_draw : Cl (tb K) P w mg base "_law_draw" 2 3 f__law_draw) (c__law_right : Cl (tb K) P w mg base "_law_right" 6 2 f__law_right) (c__law_changed : Cl (tb K) P w mg base "_law_changed" 3 3 f__law_changed) (c__law_written : Cl (tb K) P w mg base "_law_written" 1 2 f__law_written) (c__law_due : Cl (tb K) P w mg base "_law_due" 1 1 f__law_due) (c__law_told : Cl (tb K) P w mg base "_law_told" 5 3 f__law_told) (c__law_whole : Cl (tb K) P w mg base "_law_whole" 1 1 f__law_whole) {f : Addr} (cdv : Value) (A : Around) (outer : List PySem.Env) (s : Shared) (H : Hp) (E : XK) (hr : Room 6 (A.deeper (PyProof.Rows.envOfC "law" (defScope s_law) s.heap.objs.size f cdv))) : PDb (tb K) (cxOf (L2.CX P w) P w (tb K).K mg base N_law "law" (defScope s_law) f cdv A outer s H E) (defBody s_law) g_law :=
  (b_cons (s_set 1 sc_law.nd (d_lstC (a_cons d_int a_nil)))
    (b_cons (s_for (i_range1 Tx.f_range (a_cons d_int a_nil)) (g_name 2 sc_law.nd) (b_cons (s_set 3 sc_law.nd (d_ix (d_lst (a_cons d_int (a_cons d_int (a_cons d_int (a_cons d_int (a_cons d_int (a_cons d_int (a_cons d_int (a_cons d_int (a_cons (d_call c__law_draw (a_cons (d_var 0) (a_cons (d_var 1) (a_cons d_int a_nil))) hr) a_nil)))))))))) (d_call c__law_draw (a_cons (d_var 0) (a_cons (d_var 1) (a_cons d_int a_nil))) hr)))
    (b_cons (s_set 4 sc_law.nd (d_ix (d_lst (a_cons d_int (a_cons d_int (a_cons d_int (a_cons d_int (a_cons (d_call c__law_draw (a_cons (d_var 0) (a_cons (d_var 1) (a_cons d_int a_nil))) hr) a_nil)))))) (d_call c__law_draw (a_cons (d_var 0) (a_cons (d_var 1) (a_cons d_int a_nil))) hr)))
    (b_cons (s_if (t_not (t_val (d_call c__law_right (a_cons (d_var 3) (a_cons (d_var 4) a_nil)) hr))) (b_one (s_ret d_bl)) b_nil)
    (b_cons (s_set 5 sc_law.nd (d_call c__law_changed (a_cons (d_var 0) (a_cons (d_var 1) (a_cons (d_call c__law_written (a_cons (d_var 3) (a_cons (d_var 4) a_nil)) hr) a_nil))) hr))
    (b_cons (s_set 6 sc_law.nd (d_call c__law_due (a_cons (d_var 5) a_nil) hr))
    (b_cons (s_set 7 sc_law.nd (d_call c__law_told (a_cons d_int (a_cons (d_var 5) (a_cons d_int a_nil))) hr))
    (b_one (s_if (PDw.t (w_or (PDw.t (w_and (t_cmp (fun _ _ => op_isN) do_is (d_var 6) d_non (nomark _)) (w_and1 (t_cmp (fun _ _ => op_neA hr.units) do_ne (d_var 7) (d_lst (a_cons (d_str [99, 108, 111, 99, 107] (by decide +kernel)) a_nil)) (nomark _))))) (w_or1 (PDw.t (w_and (t_cmp (fun _ _ => op_notN) do_isnot (d_var 6) d_non (nomark _)) (w_and1 (PDw.t (w_or (t_cmp (fun _ _ => op_neA hr.units) do_ne (d_var 7) (d_var 6) (nomark _)) (w_or1 (t_not (t_val (d_call c__law_whole (a_cons (d_var 7) a_nil) hr)))))))))))) (b_one (s_ret d_bl)) b_nil)))))))))
    (b_cons (s_set 8 sc_law.nd (d_call c__law_draw (a_cons (d_var 0) (a_cons (d_var 1) (a_cons (d_op (fun _ _ => op_pow) do_pow d_int d_int) a_nil))) hr))
    (b_cons (s_set 9 sc_law.nd (d_ix (d_lst (a_cons (d_neg d_int) (a_cons d_bl (a_cons d_non (a_cons (d_str [53] (by decide +kernel)) (a_cons (d_lst (a_cons d_int a_nil)) (a_cons d_dct0 (a_cons d_bl (a_cons (d_tup (a_cons d_int a_nil)) (a_cons (d_op (fun _ _ => op_pow) do_pow d_int d_int) a_nil)))))))))) (d_op (fun _ _ => op_mod) do_mod (d_var 8) d_int)))
    (b_cons (s_set 3 sc_law.nd (d_ix (d_lst (a_cons d_int (a_cons (d_var 9) a_nil))) (d_op (fun _ _ => op_mod) do_mod (d_op (fun _ _ => op_fdiv) do_div (d_var 8) d_int) d_int)))
    (b_cons (s_set 4 sc_law.nd (d_ix (d_lst (a_cons d_int (a_cons (d_var 9) (a_cons d_int a_nil)))) (d_op (fun _ _ => op_mod) do_mod (d_op (fun _ _ => op_fdiv) do_div (d_var 8) d_int) d_int)))
    (b_cons (s_set 10 sc_law.nd (d_ix (d_lst (a_cons d_int (a_cons (d_var 9) a_nil))) (d_op (fun _ _ => op_mod) do_mod (d_op (fun _ _ => op_fdiv) do_div (d_var 8) d_int) d_int)))
    (b_cons (s_set 11 sc_law.nd (d_ix (d_lst (a_cons d_int (a_cons d_non (a_cons d_bl (a_cons (d_lst (a_cons (d_str [48, 32, 48, 48, 58, 48, 48] (by decide +kernel)) a_nil)) (a_cons d_dct0 (a_cons (d_tup (a_cons (d_str [48] (by decide +kernel)) (a_cons (d_str [48, 48, 58, 48, 48] (by decide +kernel)) a_nil))) a_nil))))))) (d_op (fun _ _ => op_mod) do_mod (d_op (fun _ _ => op_fdiv) do_div (d_var 8) d_int) d_int)))
    (b_cons (s_set 12 sc_law.nd (d_lst (a_cons (d_call c__law_told (a_cons d_int (a_cons (d_var 3) (a_cons d_int a_nil))) hr) (a_cons (d_call c__law_told (a_cons d_int (a_cons d_int (a_cons (d_var 4) a_nil))) hr) (a_cons (d_call c__law_told (a_cons d_int (a_cons (d_var 10) (a_cons d_int a_nil))) hr) (a_cons (d_call c__law_told (a_cons d_int (a_cons (d_var 10) (a_cons d_int a_nil))) hr) a_nil))))))
    (b_one (s_ret (d_cmp (fun _ _ => op_eqA hr.units) do_eq (d_op (fun _ _ => op_addA) do_add (d_var 12) (d_lst (a_cons (d_call c__law_told (a_cons d_int (a_cons (d_var 11) (a_cons d_int a_nil))) hr) (a_cons (d_call c__law_told (a_cons d_int (a_cons (d_var 3) (a_cons (d_var 4) a_nil))) hr) a_nil)))) (d_op (fun _ _ => op_mulA) do_mulA (d_lst (a_cons (d_lst (a_cons (d_str [99, 108, 111, 99, 107] (by decide +kernel)) a_nil)) a_nil)) d_int) (nomark _)))))))))))))
end
end Rb
namespace Rb
open PySem PySem.Spec L2 Mp
theorem p_cell {ns : List Int} {k : Int} {s : Sto} (hk : 0 ≤ k) : ∃ x, f__law_cell [.scr ns, .int k] s = .ok (.int x) s := by
  cases ns with
  | nil => exact ⟨0, by simp [f__law_cell, mkF, g__law_cell, oEq_scr0, lim_eq]⟩
  | cons n ns =>
    have hp : (0 : Int) < ((n :: ns).length : Int) := by rw [List.length_cons]; omega
    obtain ⟨d, h1, v, e⟩ := atI_ex (xs := (n :: ns).map D.int) (i := k % ((n :: ns).length : Int)) (Q := fun d => ∃ v, d = D.int v) (Int.emod_nonneg _ (by omega)) (by
      rw [List.length_map]
      exact Int.emod_lt_of_pos _ hp) (by simp)
    subst e
    refine ⟨v, ?_⟩
    simp only [List.map_cons, List.length_cons] at h1
    simp only [List.length_cons] at hp
    push_cast at h1 hp
    simp [f__law_cell, mkF, g__law_cell, oEq_scr0, lim_eq, h1, hp]
abbrev Tp (k : Int) : Sto := [.lst [.int k]]
theorem p_draw {ns : List Int} {k m : Int} (hk : 0 ≤ k ∧ k < 100000) (hm : 0 < m) : ∃ x, 0 ≤ x ∧ x < m ∧ f__law_draw [.scr ns, .loc 0, .int m] (Tp k) = .ok (.int x) (Tp (k + 1)) := by
  obtain ⟨c, hc⟩ := p_cell (ns := ns) (k := k) (s := Tp (k + 1)) hk.1
  have e1 : ∀ i, cMul i (c % 1000000007 + 7919 * (k + 1) + 13) = true := fun i => cMul_r (by omega)
  have e2 : cMul 7919 (k + 1) = true := cMul_l (by omega)
  refine ⟨(c % 1000000007 + 7919 * (k + 1) + 13) * (c % 1000000007 + 7919 * (k + 1) + 13) % 1000000007 * (c % 1000000007 + 7919 * (k + 1) + 13) % 998244353 / 11 % m, Int.emod_nonneg _ (by omega), Int.emod_lt_of_pos _ hm, ?_⟩
  simp [f__law_draw, mkF, g__law_draw, ixN, e1, e2, hc, hm, cut_len]
theorem int2 : ∀ i j : Fin 10, PySem.intText? (S [48 + i.val, 48 + j.val]) = some (10 * (i.val : Int) + j.val) := by decide +kernel
theorem zf2 : ∀ i : Fin 100, un (Txt.zfill (S (strI (i.val : Int))) 2) = [48 + i.val / 10, 48 + i.val % 10] ∧ (i.val : Int).natAbs.log2 < 1920 := by decide +kernel
theorem sx1 : ∀ i : Fin 10, Builtin.Str.occurrences (S [48, 49, 50, 51, 52, 53, 54, 55, 56, 57]) (S [48 + i.val]) 0 10 1 = [i.val] := by decide +kernel
theorem cls1 {k : Int} : f__law_class [.exc 1] (Tp k) = .ok (.str [99, 108, 111, 99, 107]) (Tp k) := by rfl
end Rb
namespace Rb
open PySem PySem.Spec L2 Mp
def dig (c : Nat) : Bool := decide (48 ≤ c) && decide (c ≤ 57)
theorem dig_fig {c : Nat} : decide (c ∈ [48, 49, 50, 51, 52, 53, 54, 55, 56, 57]) = dig c := by
  unfold dig
  by_cases h : 48 ≤ c ∧ c ≤ 57
  · obtain ⟨h1, h2⟩ := h
    have : c = 48 ∨ c = 49 ∨ c = 50 ∨ c = 51 ∨ c = 52 ∨ c = 53 ∨ c = 54 ∨ c = 55 ∨ c = 56 ∨ c = 57 := by omega
    rcases this with h | h | h | h | h | h | h | h | h | h <;> subst h <;> rfl
  · have e : (decide (48 ≤ c) && decide (c ≤ 57)) = false := by
      rw [Bool.eq_false_iff]
      simpa using h
    rw [e]
    refine decide_eq_false fun hm => h ?_
    simp at hm
    omega
theorem all_map {α : Type} {g : α → Bool} {f : List Bool → Bool} {l : List α} {s : Sto} : bAnyAll f [.lst (l.map fun c => D.bl (g c))] s = .ok (.bl (f (l.map g))) s := by
  simp [bAnyAll, bools_map]
theorem p_figs {z : List Nat} {δ : Mp.Env} {s : Sto} {i : Nat} {e : DE} (hl : z.length ≤ lim) (he : ∀ c, e (δ.set i (some (.str [c]))) s = .ok (.bl (dig c)) s) :
    lcL (tgN i) cYes e δ (z.map fun c => D.str [c]) [] s = .ok (.lst (z.map fun c => D.bl (dig c))) s := by
  have h := lcL_map (s := s) (δ := δ) (t := tgN i) (e := e) (fun d => match d with
    | .str [c] => D.bl (dig c)
    | _ => D.non) (z.map fun c => D.str [c]) [] (by simpa using hl) (by
      intro d hd
      obtain ⟨c, _, rfl⟩ := List.mem_map.mp hd
      exact ⟨_, rfl, he c⟩)
  rw [h, List.map_map]
  rfl
theorem dig_or {c : Nat} : (decide (c = 48) || (decide (c = 49) || (decide (c = 50) || (decide (c = 51) || (decide (c = 52) || (decide (c = 53) || (decide (c = 54) || (decide (c = 55) || (decide (c = 56) || decide (c = 57)))))))))) = dig c := by
  rw [← dig_fig]
  simp
theorem p_are {z : List Nat} {s : Sto} (hl : z.length ≤ lim) : f_are_figures [.str z] s = .ok (.bl (z != [] && z.all dig)) s := by
  have h := p_figs (z := z) (δ := [some (.str z), none]) (s := s) (i := 1) (e := dOp (oInA false) (dVar 1) (dC (.str [48, 49, 50, 51, 52, 53, 54, 55, 56, 57]))) hl (fun c => by simp [dig_or])
  cases z with
  | nil => simp [f_are_figures, mkF, g_are_figures]
  | cons c z =>
    simp only [List.map_cons] at h
    simp [f_are_figures, mkF, g_are_figures, h, bAnyAll, boolsOf, bools_map]
def due : List Nat → Option Int
  | [a, b, c, d, e] => if c == 58 && (dig a && dig b && dig d && dig e) && (decide (10 * (a - 48) + (b - 48) ≤ 47) && decide (10 * (d - 48) + (e - 48) ≤ 59)) then some (60 * (10 * (a - 48) + (b - 48) : Nat) + (10 * (d - 48) + (e - 48) : Nat)) else none
  | _ => none
theorem dig_ex {c : Nat} (h : dig c = true) : ∃ i : Fin 10, c = 48 + i.val := by
  unfold dig at h
  simp at h
  exact ⟨⟨c - 48, by omega⟩, by simp; omega⟩
theorem p_minute {z : List Nat} {s : Sto} (hl : z.length ≤ 1000) : f_minute_of [.str z] s = match due z with
    | some m => .ok (.int m) s
    | none => .exc 1 s := by
  have hl' : z.length ≤ lim := by rw [lim_eq]; omega
  have hs : kitB "str" "str" = some true := by decide +kernel
  by_cases h5 : z.length = 5
  · match z, h5 with
    | [a, b, c, d, e], _ =>
      have hf := p_are (z := [a, b, d, e]) (s := s) (by rw [lim_eq]; simp)
      by_cases hc : c = 58
      · cases hd : (dig a && dig b && dig d && dig e) with
        | false =>
          have hd' : ([a, b, d, e].all dig) = false := by
            rw [← hd]; simp [Bool.and_assoc]
          rw [hd'] at hf
          simp [f_minute_of, mkF, g_minute_of, bIsA, tyOf, hs, lim_eq, oSl, HT.sIx, cutL, hc, hf, due, hd]
        | true =>
          simp only [Bool.and_eq_true] at hd
          obtain ⟨⟨⟨h1, h2⟩, h3⟩, h4⟩ := hd
          have hf' : f_are_figures [.str [a, b, d, e]] s = .ok (.bl true) s := by rw [hf]; simp [h1, h2, h3, h4]
          obtain ⟨i, rfl⟩ := dig_ex h1
          obtain ⟨j, rfl⟩ := dig_ex h2
          obtain ⟨k, rfl⟩ := dig_ex h3
          obtain ⟨l, rfl⟩ := dig_ex h4
          have i1 := int2 i j
          have i2 := int2 k l
          have hi := i.isLt
          have hj := j.isLt
          have hk := k.isLt
          have hl2 := l.isLt
          have c1 : cMul 60 (10 * (i.val : Int) + j.val) = true := cMul_l (by omega)
          by_cases hB : 10 * k.val + l.val ≤ 59
          · by_cases hA : 10 * i.val + j.val ≤ 47
            · have q1 : ¬ (59 < 10 * (k.val : Int) + l.val) := by omega
              have q2 : ¬ (2879 < 60 * (10 * (i.val : Int) + j.val) + (10 * (k.val : Int) + l.val)) := by omega
              simp [f_minute_of, mkF, g_minute_of, bIsA, tyOf, hs, lim_eq, oSl, HT.sIx, cutL, hc, hf', due, h1, h2, h3, h4, i1, i2, c1, q1, q2, hA, hB]
            · have q1 : ¬ (59 < 10 * (k.val : Int) + l.val) := by omega
              have q2 : 2879 < 60 * (10 * (i.val : Int) + j.val) + (10 * (k.val : Int) + l.val) := by omega
              simp [f_minute_of, mkF, g_minute_of, bIsA, tyOf, hs, lim_eq, oSl, HT.sIx, cutL, hc, hf', due, h1, h2, h3, h4, i1, i2, c1, q1, q2, hA, hB]
          · have q1 : 59 < 10 * (k.val : Int) + l.val := by omega
            simp [f_minute_of, mkF, g_minute_of, bIsA, tyOf, hs, lim_eq, oSl, HT.sIx, cutL, hc, hf', due, h1, h2, h3, h4, i1, i2, c1, q1, hB]
      · simp [f_minute_of, mkF, g_minute_of, bIsA, tyOf, hs, lim_eq, oSl, HT.sIx, cutL, hc, due]
  · have e : due z = none := by
      unfold due
      split
      · simp at h5
      · rfl
    rw [e]
    have h5' : ¬ (z.length : Int) = 5 := by omega
    simp [f_minute_of, mkF, g_minute_of, bIsA, tyOf, hs, hl', h5']
end Rb
namespace Rb
open PySem PySem.Spec L2 Mp
def wr (m : Int) : List Nat := [48 + (m / 60 / 10).toNat, 48 + (m / 60 % 10).toNat, 58, 48 + (m % 60 / 10).toNat, 48 + (m % 60 % 10).toNat]
theorem figs_at {i : Int} (h : 0 ≤ i ∧ i < 10) : atI [48, 49, 50, 51, 52, 53, 54, 55, 56, 57] i = some (48 + i.toNat) := by
  obtain ⟨n, rfl⟩ := Int.eq_ofNat_of_zero_le h.1
  have : n = 0 ∨ n = 1 ∨ n = 2 ∨ n = 3 ∨ n = 4 ∨ n = 5 ∨ n = 6 ∨ n = 7 ∨ n = 8 ∨ n = 9 := by omega
  rcases this with h | h | h | h | h | h | h | h | h | h <;> subst h <;> rfl
theorem ki : kitB "int" "int" = some true := by decide +kernel
theorem kib : kitB "int" "bool" = some false := by decide +kernel
theorem kbi : kitB "bool" "int" = some true := by decide +kernel
theorem kbb : kitB "bool" "bool" = some true := by decide +kernel
theorem kni : kitB "NoneType" "int" = some false := by decide +kernel
theorem ksi : kitB "str" "int" = some false := by decide +kernel
theorem kli : kitB "list" "int" = some false := by decide +kernel
theorem kdi : kitB "dict" "int" = some false := by decide +kernel
theorem kti : kitB "tuple" "int" = some false := by decide +kernel
theorem kis : kitB "int" "str" = some false := by decide +kernel
theorem kbs : kitB "bool" "str" = some false := by decide +kernel
theorem kns : kitB "NoneType" "str" = some false := by decide +kernel
theorem kls : kitB "list" "str" = some false := by decide +kernel
theorem kds : kitB "dict" "str" = some false := by decide +kernel
theorem kts : kitB "tuple" "str" = some false := by decide +kernel
theorem zfI {i : Int} (h : 0 ≤ i ∧ i < 100) : un (Txt.zfill (S (strI i)) 2) = [48 + (i / 10).toNat, 48 + (i % 10).toNat] ∧ i.natAbs.log2 < 1920 := by
  obtain ⟨n, rfl⟩ := Int.eq_ofNat_of_zero_le h.1
  have z := zf2 ⟨n, by omega⟩
  simp only at z
  refine ⟨?_, z.2⟩
  rw [z.1]
  have e1 : ((n : Int) / 10).toNat = n / 10 := by omega
  have e2 : ((n : Int) % 10).toNat = n % 10 := by omega
  rw [e1, e2]
theorem p_clock {m : Int} {s : Sto} (h : 0 ≤ m ∧ m ≤ 2879) : f_clock_text [.int m] s = .ok (.str (wr m)) s := by
  obtain ⟨z1, z2⟩ := zfI (i := m / 60) (by omega)
  obtain ⟨z3, z4⟩ := zfI (i := m % 60) (by omega)
  have h0 := h.1
  have h1 := h.2
  have pk : PadOk 2 = true := by decide
  have n1 : f_need_among [.int m, .int 2879] s = .ok .non s := by
    simp [f_need_among, mkF, g_need_among, f_is_among, g_is_among, bIsA, tyOf, ki, kib, h0, h1]
  simp [f_clock_text, mkF, g_clock_text, n1, z1, z2, z3, z4, mZfill, mTxtI, pk, lim_eq, wr]
end Rb
namespace Rb
open PySem PySem.Spec L2 Mp
theorem S_SX (a : List Nat) : S a = SX.S a := rfl
theorem strI_nat (n : Nat) : strI (n : Int) = TL.numL n := TL.tl_num n
abbrev dv (w : List Nat) : Nat := NumText.digitsVal w
theorem dv_cons (a : Nat) : ∀ (r : List Nat) (x : Nat), r.foldl (fun acc c => acc * 10 + (c - 48)) x = x * 10 ^ r.length + dv r
  | [], x => by simp [dv, NumText.digitsVal]
  | c :: r, x => by
    have h1 := dv_cons a r (x * 10 + (c - 48))
    have h2 := dv_cons a r (0 * 10 + (c - 48))
    unfold dv NumText.digitsVal
    rw [List.foldl_cons, List.foldl_cons, h1, h2, List.length_cons, Nat.pow_succ]
    have e : (x * 10 + (c - 48)) * 10 ^ r.length = x * (10 ^ r.length * 10) + (c - 48) * 10 ^ r.length := by rw [Nat.add_mul, Nat.mul_assoc, Nat.mul_comm 10]
    rw [e]
    simp
    omega
theorem dv_c (a : Nat) (r : List Nat) : dv (a :: r) = (a - 48) * 10 ^ r.length + dv r := by
  have := dv_cons 0 r (0 * 10 + (a - 48))
  unfold dv NumText.digitsVal at *
  rw [List.foldl_cons, this]
  simp
theorem dv_lt : ∀ {w : List Nat}, w.all dig = true → dv w < 10 ^ w.length
  | [], _ => by simp [dv, NumText.digitsVal]
  | a :: r, h => by
    rw [List.all_cons, Bool.and_eq_true] at h
    have h1 := dv_lt h.2
    have ha : a - 48 ≤ 9 := by
      have := h.1
      unfold dig at this
      simp at this
      omega
    rw [dv_c, List.length_cons, Nat.pow_succ]
    have : (a - 48) * 10 ^ r.length ≤ 9 * 10 ^ r.length := Nat.mul_le_mul_right _ ha
    omega
theorem dv_ge {a : Nat} {r : List Nat} (ha : dig a = true) (h : a ≠ 48) : 10 ^ r.length ≤ dv (a :: r) := by
  unfold dig at ha
  simp at ha
  rw [dv_c]
  have : 1 * 10 ^ r.length ≤ (a - 48) * 10 ^ r.length := Nat.mul_le_mul_right _ (by omega)
  omega
theorem int_dv {w : List Nat} (h : w.all dig = true) (hne : w ≠ []) (hl : w.length ≤ 600) : PySem.intText? (S w) = some (dv w : Int) := SX.int_S (by exact h) hne (by omega)
def numW (w : List Nat) : Option Nat := if w.length ≤ 5 ∧ w ≠ [] ∧ w.all dig = true ∧ (w.head? = some 48 → w = [48]) then some (dv w) else none
theorem p_num {w : List Nat} {s : Sto} (hl : w.length ≤ 500) : f_number_of [.str w] s = match numW w with
    | some d => .ok (.int d) s
    | none => .ok .non s := by
  have hl' : w.length ≤ lim := by rw [lim_eq]; omega
  have hf := p_are (z := w) (s := s) hl'
  unfold numW
  cases w with
  | nil => simp [f_number_of, mkF, g_number_of, lim_eq, hf]
  | cons a r =>
    have h6 : r.length ≤ 999999 := by simp only [List.length_cons] at hl; omega
    by_cases h5 : (a :: r).length ≤ 5
    · have h5' : ¬ (5 < ((a :: r).length : Int)) := by omega
      have h5n : r.length ≤ 4 := by simpa using h5
      simp only [List.length_cons] at h5'
      push_cast at h5'
      cases hd : (a :: r).all dig with
      | false =>
        rw [hd] at hf
        simp [f_number_of, mkF, g_number_of, lim_eq, h6, hf, h5', hd]
      | true =>
        rw [hd] at hf
        have hi := int_dv (w := a :: r) hd (by simp) (by omega)
        by_cases ha : a = 48
        · subst ha
          cases r with
          | nil =>
            simp [f_number_of, mkF, g_number_of, lim_eq, h6, hf, mStarts, starts1, hi, hd]
          | cons b r =>
            simp only [List.length_cons] at h6 h5n
            have h7 : r.length ≤ 999998 := by omega
            have h8 : ¬ 5 < (r.length : Int) + 1 + 1 := by omega
            simp [f_number_of, mkF, g_number_of, lim_eq, h7, hf, h8, mStarts, starts1, hd]
        · have hl6 : r.length + 1 ≤ 640 := by omega
          simp [f_number_of, mkF, g_number_of, lim_eq, h6, hf, h5', h5n, mStarts, starts1, ha, hi, hl6, hd]
    · have h5' : 5 < ((a :: r).length : Int) := by omega
      have h5n : ¬ r.length ≤ 4 := by simpa using h5
      simp only [List.length_cons] at h5'
      push_cast at h5'
      simp [f_number_of, mkF, g_number_of, lim_eq, h6, h5', h5n]
theorem numW_big {w : List Nat} {d : Nat} (h : numW w = some d) (hl : 4 < w.length) : 9999 < d := by
  unfold numW at h
  split at h
  · rename_i hc
    cases h
    obtain ⟨h1, h2, h3, h4⟩ := hc
    cases w with
    | nil => simp at hl
    | cons a r =>
      rw [List.all_cons, Bool.and_eq_true] at h3
      have ha : a ≠ 48 := fun e => by
        subst e
        have := h4 rfl
        rw [this] at hl
        simp at hl
      have := dv_ge (r := r) h3.1 ha
      have h6 : r.length = 4 := by simp only [List.length_cons] at hl h1; omega
      rw [h6] at this
      omega
  · cases h
theorem numW_small {w : List Nat} {d : Nat} (h : numW w = some d) (hl : w.length ≤ 4) : d ≤ 9999 := by
  unfold numW at h
  split at h
  · rename_i hc
    cases h
    have h1 := dv_lt hc.2.2.1
    have h2 : 10 ^ w.length ≤ 10 ^ 4 := Nat.pow_le_pow_right (by decide) hl
    omega
  · cases h
/-- what a text of a moment tells: w ahead of the first blank, c behind it -/
def dueM (w c : List Nat) : Option Int := match numW w, due c with
  | some d, some m => if d ≤ 9999 ∧ m ≤ 1439 then some (1440 * d + m) else none
  | _, _ => none
theorem need_ok {i m : Int} {s : Sto} (h : 0 ≤ i ∧ i ≤ m) : f_need_among [.int i, .int m] s = .ok .non s := by
  simp [f_need_among, mkF, g_need_among, f_is_among, g_is_among, bIsA, tyOf, ki, kib, h.1, h.2]
theorem need_bad {i m : Int} {s : Sto} (h : ¬ (0 ≤ i ∧ i ≤ m)) : f_need_among [.int i, .int m] s = .exc 1 s := by
  by_cases h0 : 0 ≤ i
  · have h1 : ¬ i ≤ m := fun z => h ⟨h0, z⟩
    simp [f_need_among, mkF, g_need_among, f_is_among, g_is_among, bIsA, tyOf, ki, kib, h0, h1]
  · simp [f_need_among, mkF, g_need_among, f_is_among, g_is_among, bIsA, tyOf, ki, kib, h0]
theorem mo_ok {d m : Int} {s : Sto} (hd : 0 ≤ d ∧ d ≤ 9999) (hm : 0 ≤ m ∧ m ≤ 1439) : f_moment_of [.int d, .int m] s = .ok (.int (1440 * d + m)) s := by
  have c : cMul 1440 d = true := cMul_l (by omega)
  simp [f_moment_of, mkF, g_moment_of, need_ok hd, need_ok hm, c]
theorem mo_bad1 {x y : D} {s : Sto} (h : f_need_among [x, .int 9999] s = .exc 1 s) : f_moment_of [x, y] s = .exc 1 s := by
  simp [f_moment_of, mkF, g_moment_of, h]
theorem mo_bad2 {d : Int} {y : D} {s : Sto} (hd : 0 ≤ d ∧ d ≤ 9999) (h : f_need_among [y, .int 1439] s = .exc 1 s) : f_moment_of [.int d, y] s = .exc 1 s := by
  simp [f_moment_of, mkF, g_moment_of, need_ok hd, h]
theorem due_nn {c : List Nat} {m : Int} (h : due c = some m) : 0 ≤ m := by
  unfold due at h
  split at h
  · split at h
    · cases h; omega
    · cases h
  · cases h
theorem part1 {w c : List Nat} (h : 32 ∉ w) : Txt.partition (S (w ++ 32 :: c)) (S [32]) = (S w, S [32], S c) := SX.partition_some (by simp) (SX.par_head (sep := []) c h)
theorem part0 {w : List Nat} (h : 32 ∉ w) : Txt.partition (S w) (S [32]) = (S w, S [], S []) := SX.partition_none (by simp) (SX.par_head_none h)
theorem un_S (a : List Nat) : un (S a) = a := by simp [un, S]
theorem kss : kitB "str" "str" = some true := by decide +kernel
theorem by_some {w c : List Nat} {s : Sto} (h : 32 ∉ w) (hl : (w ++ 32 :: c).length ≤ 400) : f_moment_by [.str (w ++ 32 :: c)] s = match dueM w c with
    | some q => .ok (.int q) s
    | none => .exc 1 s := by
  have hw : w.length + (c.length + 1) ≤ 400 := by simpa using hl
  have l1 : w.length + (c.length + 1) ≤ 1000000 := by omega
  have hn := p_num (w := w) (s := s) (by omega)
  have hm := p_minute (z := c) (s := s) (by omega)
  unfold dueM
  cases e1 : numW w with
  | none =>
    rw [e1] at hn
    simp [f_moment_by, mkF, g_moment_by, bIsA, tyOf, kss, mPart, part1 h, un_S, lim_eq, l1, hn]
  | some d =>
    rw [e1] at hn
    cases e2 : due c with
    | none =>
      rw [e2] at hm
      simp [f_moment_by, mkF, g_moment_by, bIsA, tyOf, kss, mPart, part1 h, un_S, lim_eq, l1, hn, hm]
    | some m =>
      rw [e2] at hm
      have m0 := due_nn e2
      by_cases h1 : d ≤ 9999
      · by_cases h2 : m ≤ 1439
        · have hmo := mo_ok (d := d) (m := m) (s := s) (by omega) (by omega)
          simp [f_moment_by, mkF, g_moment_by, bIsA, tyOf, kss, mPart, part1 h, un_S, lim_eq, l1, hn, hm, hmo, h1, h2]
        · have hmo := mo_bad2 (d := d) (y := .int m) (s := s) (by omega) (need_bad (by omega))
          simp [f_moment_by, mkF, g_moment_by, bIsA, tyOf, kss, mPart, part1 h, un_S, lim_eq, l1, hn, hm, hmo, h1, h2]
      · have hmo := mo_bad1 (x := .int d) (y := .int m) (s := s) (need_bad (by omega))
        simp [f_moment_by, mkF, g_moment_by, bIsA, tyOf, kss, mPart, part1 h, un_S, lim_eq, l1, hn, hm, hmo, h1]
theorem by_none {w : List Nat} {s : Sto} (h : 32 ∉ w) (hl : w.length ≤ 400) : f_moment_by [.str w] s = .exc 1 s := by
  have l1 : w.length ≤ 1000000 := by omega
  have hn := p_num (w := w) (s := s) (by omega)
  have hm := p_minute (z := []) (s := s) (by simp)
  have e0 : due [] = none := rfl
  rw [e0] at hm
  cases e1 : numW w with
  | none =>
    rw [e1] at hn
    simp [f_moment_by, mkF, g_moment_by, bIsA, tyOf, kss, mPart, part0 h, un_S, lim_eq, l1, hn]
  | some d =>
    rw [e1] at hn
    simp [f_moment_by, mkF, g_moment_by, bIsA, tyOf, kss, mPart, part0 h, un_S, lim_eq, l1, hn, hm]
end Rb
namespace Rb
open PySem PySem.Spec L2 Mp
theorem due_none {w : List Nat} {s : Sto} (h : 32 ∉ w) (hl : w.length ≤ 400) : f__law_due [.str w] s = .ok .non s := by
  have l1 : w.length ≤ 1000000 := by omega
  have o1 : oSl (.str w) none (some 0) s = .ok (.str []) s := by
    rw [oSl_str (by rw [lim_eq]; exact l1)]
    have := cutL_to (a := ([] : List Nat)) (b := w) (i := 0) rfl
    simp only [List.nil_append] at this
    rw [this]
  have o2 : oSl (.str w) (some 0) none s = .ok (.str w) s := by
    rw [oSl_str (by rw [lim_eq]; exact l1)]
    have := cutL_from (a := ([] : List Nat)) (b := w) (i := 0) rfl
    simp only [List.nil_append] at this
    rw [this]
  simp [f__law_due, mkF, g__law_due, mFind, find0 h, o1, o2]
theorem due5 {z : List Nat} (h : ¬ (z.length = 5)) : due z = none := by
  unfold due
  split
  · simp at h
  · rfl
theorem numW_nil : numW [] = none := rfl
theorem dueM_none1 {w c : List Nat} (h : numW w = none) : dueM w c = none := by
  unfold dueM; rw [h]
theorem dueM_none2 {w c : List Nat} (h : due c = none) : dueM w c = none := by
  unfold dueM; rw [h]
  cases numW w <;> rfl
theorem due_some {w c : List Nat} {s : Sto} (h : 32 ∉ w) (hl : (w ++ 32 :: c).length ≤ 400) : f__law_due [.str (w ++ 32 :: c)] s = match dueM w c with
    | some q => .ok (.int q) s
    | none => .ok .non s := by
  have hw : w.length + (c.length + 1) ≤ 400 := by simpa using hl
  have l1 : w.length + (c.length + 1) ≤ 1000000 := by omega
  have l2 : w.length ≤ 1000000 := by omega
  have l3 : c.length ≤ 1000000 := by omega
  have hf := find1 (q := c) h
  have mx : (if (w.length : Int) > 0 then (w.length : Int) else 0) = w.length := by split <;> omega
  have o1 : oSl (.str (w ++ 32 :: c)) none (some (w.length : Int)) s = .ok (.str w) s := by
    rw [oSl_str (by rw [lim_eq, List.length_append, List.length_cons]; exact l1), cutL_to rfl]
  have o2 : oSl (.str (w ++ 32 :: c)) (some ((w.length : Int) + 1)) none s = .ok (.str c) s := by
    rw [oSl_str (by rw [lim_eq, List.length_append, List.length_cons]; exact l1)]
    have e : w ++ 32 :: c = (w ++ [32]) ++ c := by simp
    rw [e, cutL_from (by simp)]
  cases w with
  | nil =>
    rw [dueM_none1 numW_nil]
    simp only [List.nil_append, List.length_nil] at hf o1 o2
    push_cast at hf o1 o2
    simp [f__law_due, mkF, g__law_due, mFind, hf, o1, o2]
  | cons a r =>
    simp only [List.cons_append, List.length_cons] at hf o1 o2 l1 l2 hw mx
    push_cast at hf o1 o2 mx
    have q1 : ¬ ((r.length : Int) + 1 < 1) := by omega
    have pr := mx
    have q2 : r.length + 1 ≤ 1000000 := l2
    by_cases h4 : r.length + 1 ≤ 4
    · have q4 : ¬ (4 < (r.length : Int) + 1) := by omega
      by_cases h0 : a = 48 ∧ r ≠ []
      · obtain ⟨rfl, h0⟩ := h0
        have e : numW (48 :: r) = none := by
          unfold numW
          rw [if_neg]
          rintro ⟨_, _, _, z⟩
          have := z rfl
          simp at this
          exact h0 this
        rw [dueM_none1 e]
        have nr : (48 :: r == [48]) = false := by
          rw [beq_eq_false_iff_ne]
          simpa using h0
        simp [f__law_due, mkF, g__law_due, mFind, hf, o1, o2, lim_eq, q1, q4, q2, mx, h0]
      · have h0' : a = 48 → r = [] := fun e => by
          by_cases hr : r = []
          · exact hr
          · exact absurd ⟨e, hr⟩ h0
        by_cases hc : c.length = 5
        · match c, hc with
          | [x, y, z, u, v], _ =>
            by_cases hz : z = 58
            · subst hz
              have hl8 : r.length + 1 + 2 + 2 ≤ 1000000 := by omega
              have hfg := p_figs (z := a :: (r ++ [x, y, u, v])) (δ := [some (.str (a :: (r ++ 32 :: [x, y, 58, u, v]))), some (.str [48, 49, 50, 51, 52, 53, 54, 55, 56, 57]), some (.int ((r.length : Int) + 1)), some (.str (a :: r)), some (.str [x, y, 58, u, v]), none]) (s := s) (i := 5) (e := dOp (oInA false) (dVar 5) (dVar 1)) (by rw [lim_eq]; simp; omega) (fun c => by simp [dig_or])
              have hal := all_map (g := dig) (f := (·.all id)) (l := a :: (r ++ [x, y, u, v])) (s := s)
              simp only [List.map_cons, List.map_append, List.map_nil] at hfg hal
              have o3 : ∀ s, oSl (.str [x, y, 58, u, v]) none (some 2) s = .ok (.str [x, y]) s := fun s => oSl_str (by rw [lim_eq]; simp)
              have o4 : ∀ s, oSl (.str [x, y, 58, u, v]) (some 3) none s = .ok (.str [u, v]) s := fun s => oSl_str (by rw [lim_eq]; simp)
              have hal2 : (dig a :: (r.map dig ++ [dig x, dig y, dig u, dig v])).all id = (dig a && (r.all dig && (dig x && (dig y && (dig u && dig v))))) := by
                simp
              rw [hal2] at hal
              have s1 : r.length ≤ 999997 := by omega
              have s2 : r.length ≤ 999995 := by omega
              cases hd : (dig a && (r.all dig && (dig x && (dig y && (dig u && dig v))))) with
              | false =>
                rw [hd] at hal
                have e : dueM (a :: r) [x, y, 58, u, v] = none := by
                  by_cases hw : (a :: r).all dig = true
                  · have : (dig x && dig y && dig u && dig v) = false := by
                      rw [List.all_cons, Bool.and_eq_true] at hw
                      rw [hw.1, hw.2] at hd
                      simpa [Bool.and_assoc] using hd
                    refine dueM_none2 ?_
                    unfold due
                    dsimp only
                    rw [this]
                    rfl
                  · refine dueM_none1 ?_
                    unfold numW
                    rw [if_neg]
                    rintro ⟨_, _, z, _⟩
                    exact hw z
                rw [e]
                rcases Decidable.em (a = 48) with ha | ha
                · have := h0' ha
                  subst this
                  subst ha
                  simp at hf o1 o2 mx hfg hal
                  simp [f__law_due, mkF, g__law_due, mFind, hf, o1, o2, lim_eq, hfg, hal, o3, o4]
                · simp [f__law_due, mkF, g__law_due, mFind, hf, o1, o2, lim_eq, q1, q4, q2, mx, ha, hfg, hal, o3, o4, s1, s2]
              | true =>
                rw [hd] at hal
                simp only [Bool.and_eq_true] at hd
                obtain ⟨da, dr, dx, dy, du, dv'⟩ := hd
                obtain ⟨i, rfl⟩ := dig_ex dx
                obtain ⟨j, rfl⟩ := dig_ex dy
                obtain ⟨k, rfl⟩ := dig_ex du
                obtain ⟨l, rfl⟩ := dig_ex dv'
                have i1 := int2 i j
                have i2 := int2 k l
                have hi := i.isLt
                have hj := j.isLt
                have hk := k.isLt
                have hl2 := l.isLt
                have hw : (a :: r).all dig = true := by rw [List.all_cons, da, dr]; rfl
                have iw := int_dv (w := a :: r) hw (by simp) (by simp only [List.length_cons]; omega)
                have en : numW (a :: r) = some (dv (a :: r)) := by
                  unfold numW
                  rw [if_pos]
                  refine ⟨by simp only [List.length_cons]; omega, by simp, hw, fun e => ?_⟩
                  simp at e
                  rw [e, h0' e]
                have nd := numW_small en (by simp only [List.length_cons]; omega)
                have c1 : cMul 60 (10 * (i.val : Int) + j.val) = true := cMul_l (by omega)
                have c2 : cMul 1440 (dv (a :: r) : Int) = true := cMul_l (by omega)
                have l640 : r.length + 1 ≤ 640 := by omega
                have due1 : due [48 + i.val, 48 + j.val, 58, 48 + k.val, 48 + l.val] = if 10 * i.val + j.val ≤ 47 ∧ 10 * k.val + l.val ≤ 59 then some (60 * (10 * (i.val : Int) + j.val) + (10 * k.val + l.val)) else none := by
                  unfold due
                  simp [dx, dy, du, dv']
                by_cases hB : 10 * k.val + l.val ≤ 59
                · by_cases hA : 10 * i.val + j.val ≤ 23
                  · have p1 : ¬ (59 < 10 * (k.val : Int) + l.val) := by omega
                    have p2 : ¬ (23 < 10 * (i.val : Int) + j.val) := by omega
                    have e : dueM (a :: r) [48 + i.val, 48 + j.val, 58, 48 + k.val, 48 + l.val] = some (1440 * (dv (a :: r) : Int) + 60 * (10 * (i.val : Int) + j.val) + (10 * k.val + l.val)) := by
                      unfold dueM
                      rw [en, due1, if_pos ⟨by omega, hB⟩]
                      dsimp only
                      rw [if_pos (by omega)]
                      congr 1
                      omega
                    rw [e]
                    rcases Decidable.em (a = 48) with ha | ha
                    · have := h0' ha
                      subst this
                      subst ha
                      simp at hf o1 o2 mx hfg hal
                      simp [f__law_due, mkF, g__law_due, mFind, hf, o1, o2, lim_eq, hfg, hal, o3, o4, i1, i2, iw, c1, c2, p1, p2]
                    · simp [f__law_due, mkF, g__law_due, mFind, hf, o1, o2, lim_eq, q1, q4, q2, mx, ha, hfg, hal, o3, o4, s1, s2, i1, i2, iw, c1, c2, p1, p2, l640]
                  · have p2 : 23 < 10 * (i.val : Int) + j.val := by omega
                    have e : dueM (a :: r) [48 + i.val, 48 + j.val, 58, 48 + k.val, 48 + l.val] = none := by
                      unfold dueM
                      rw [en, due1]
                      by_cases h47 : 10 * i.val + j.val ≤ 47
                      · rw [if_pos ⟨h47, hB⟩]
                        dsimp only
                        rw [if_neg]
                        omega
                      · rw [if_neg (fun z => h47 z.1)]
                    rw [e]
                    rcases Decidable.em (a = 48) with ha | ha
                    · have := h0' ha
                      subst this
                      subst ha
                      simp at hf o1 o2 mx hfg hal
                      simp [f__law_due, mkF, g__law_due, mFind, hf, o1, o2, lim_eq, hfg, hal, o3, o4, i1, i2, iw, c1, c2, p2]
                    · simp [f__law_due, mkF, g__law_due, mFind, hf, o1, o2, lim_eq, q1, q4, q2, mx, ha, hfg, hal, o3, o4, s1, s2, i1, i2, iw, c1, c2, p2, l640]
                · have p1 : 59 < 10 * (k.val : Int) + l.val := by omega
                  have e : dueM (a :: r) [48 + i.val, 48 + j.val, 58, 48 + k.val, 48 + l.val] = none := by
                    unfold dueM
                    rw [en, due1, if_neg (fun z => hB z.2)]
                  rw [e]
                  rcases Decidable.em (a = 48) with ha | ha
                  · have := h0' ha
                    subst this
                    subst ha
                    simp at hf o1 o2 mx hfg hal
                    simp [f__law_due, mkF, g__law_due, mFind, hf, o1, o2, lim_eq, hfg, hal, o3, o4, i1, i2, iw, c1, c2, p1]
                  · simp [f__law_due, mkF, g__law_due, mFind, hf, o1, o2, lim_eq, q1, q4, q2, mx, ha, hfg, hal, o3, o4, s1, s2, i1, i2, iw, c1, c2, p1, l640]
            · have e : due [x, y, z, u, v] = none := by
                unfold due
                simp [hz]
              rw [dueM_none2 e]
              rcases Decidable.em (a = 48) with ha | ha
              · have := h0' ha
                subst this
                subst ha
                simp only [List.length_nil] at hf o1 o2 mx
                simp at hf o1 o2 mx
                simp [f__law_due, mkF, g__law_due, mFind, hf, o1, o2, lim_eq, hz]
              · simp [f__law_due, mkF, g__law_due, mFind, hf, o1, o2, lim_eq, q1, q4, q2, mx, hz, ha]
        · rw [dueM_none2 (due5 hc)]
          have hc' : ¬ (c.length : Int) = 5 := by omega
          rcases Decidable.em (a = 48) with ha | ha
          · have := h0' ha
            subst this
            subst ha
            simp at hf o1 o2 mx
            simp [f__law_due, mkF, g__law_due, mFind, hf, o1, o2, lim_eq, hc', l3]
          · simp [f__law_due, mkF, g__law_due, mFind, hf, o1, o2, lim_eq, q1, q4, q2, mx, hc', ha, l3]
    · have q4 : 4 < (r.length : Int) + 1 := by omega
      have e : dueM (a :: r) c = none := by
        cases hn : numW (a :: r) with
        | none => exact dueM_none1 hn
        | some d =>
          have := numW_big hn (by simp only [List.length_cons]; omega)
          unfold dueM
          rw [hn]
          cases due c with
          | none => rfl
          | some m =>
            dsimp only
            rw [if_neg]
            omega
      rw [e]
      simp [f__law_due, mkF, g__law_due, mFind, hf, o1, o2, lim_eq, q1, q4, l2, mx]
end Rb
namespace Rb
open PySem PySem.Spec L2 Mp
theorem due_wr {m : Int} (h : 0 ≤ m ∧ m ≤ 2879) : due (wr m) = some m := by
  have d1 : ∀ i : Int, 0 ≤ i → i < 10 → dig (48 + i.toNat) = true := fun i h0 h1 => by
    unfold dig
    simp
    omega
  unfold due wr
  dsimp only
  rw [d1 _ (by omega) (by omega), d1 _ (by omega) (by omega), d1 _ (by omega) (by omega), d1 _ (by omega) (by omega)]
  have e1 : 10 * (48 + (m / 60 / 10).toNat - 48) + (48 + (m / 60 % 10).toNat - 48) = (m / 60).toNat := by omega
  have e2 : 10 * (48 + (m % 60 / 10).toNat - 48) + (48 + (m % 60 % 10).toNat - 48) = (m % 60).toNat := by omega
  rw [e1, e2, if_pos]
  · congr 1
    omega
  · simp
    omega
theorem num_head : ∀ (n : Nat), (TL.numL n).head? = some 48 → TL.numL n = [48] := fun n => by
  induction n using Nat.strongRecOn with
  | _ n ih =>
    intro h
    by_cases h10 : n < 10
    · rw [TL.numL_lt h10] at h ⊢
      simp at h
      simp [h]
    · exfalso
      rw [TL.numL_step (by omega)] at h
      have ne := TL.numL_ne (n / 10)
      have h2 : (TL.numL (n / 10)).head? = some 48 := by
        cases e : TL.numL (n / 10) with
        | nil => exact absurd e ne
        | cons a r => rw [e] at h; simpa using h
      have h3 := ih (n / 10) (by omega) h2
      have h4 := TL.numL_val (n / 10)
      rw [h3] at h4
      have : (0 : Nat) = n / 10 := h4
      omega
theorem num_all (n : Nat) : (TL.numL n).all dig = true := by
  rw [List.all_eq_true]
  intro c hc
  have := TL.numL_digits n c hc
  unfold dig
  simp
  omega
theorem numW_num {n : Nat} (h : n ≤ 9999) : numW (TL.numL n) = some n := by
  unfold numW
  rw [if_pos, dv, TL.numL_val]
  exact ⟨Nat.le_succ_of_le (TL.numL_len (k := 4) (by decide) (by omega)), TL.numL_ne n, num_all n, num_head n⟩
theorem log_ok {n : Nat} (h : n ≤ 9999) : n.log2 < 1920 := by
  by_cases h0 : n = 0
  · subst h0; decide
  · exact Nat.lt_trans ((Nat.log2_lt h0).mpr (show n < 2 ^ 14 by omega)) (by decide)
def tx (n : Nat) (m : Int) : List Nat := TL.numL n ++ 32 :: wr m
theorem tx_len {n : Nat} {m : Int} (h : n ≤ 9999) : 6 ≤ (tx n m).length ∧ (tx n m).length ≤ 10 := by
  have h1 := TL.numL_len (n := n) (k := 4) (by decide) (by omega)
  have h2 : (TL.numL n).length ≠ 0 := fun z => TL.numL_ne n (List.length_eq_zero_iff.mp z)
  unfold tx wr
  simp
  omega
theorem p_written {n : Nat} {m : Int} {s : Sto} (hn : n ≤ 9999) (h : 0 ≤ m ∧ m ≤ 1439) : f__law_written [.int n, .int m] s = .ok (.str (tx n m)) s := by
  have a1 := figs_at (i := m / 600) (by omega)
  have a2 := figs_at (i := m / 60 % 10) (by omega)
  have a3 := figs_at (i := m % 60 / 10) (by omega)
  have a4 := figs_at (i := m % 10) (by omega)
  have e : m / 600 = m / 60 / 10 := by omega
  rw [e] at a1
  have h1 := TL.numL_len (n := n) (k := 4) (by decide) (by omega)
  have l1 : (TL.numL n).length ≤ 999999 := by omega
  have l2 : (TL.numL n).length ≤ 999996 := by omega
  have l3 : (TL.numL n).length ≤ 999995 := by omega
  have l4 : (TL.numL n).length ≤ 999994 := by omega
  simp [f__law_written, mkF, g__law_written, a1, a2, a3, a4, e, lim_eq, wr, tx, strI_nat, log_ok hn, l1, l2, l3, l4]
theorem by_tx {n : Nat} {m : Int} {s : Sto} (hn : n ≤ 9999) (h : 0 ≤ m ∧ m ≤ 1439) : f_moment_by [.str (tx n m)] s = .ok (.int (1440 * n + m)) s := by
  have hl := (tx_len (m := m) hn).2
  unfold tx at hl ⊢
  rw [by_some (TL.numL_free (by omega)) (by omega)]
  unfold dueM
  rw [numW_num hn, due_wr (by omega)]
  dsimp only
  rw [if_pos (by omega)]
theorem dm_ok {n : Nat} {m : Int} {s : Sto} (hn : n ≤ 9999) (h : 0 ≤ m ∧ m ≤ 1439) : f_day_and_minute [.int (1440 * n + m)] s = .ok (.tup [.int n, .int m]) s := by
  have e1 : (1440 * (n : Int) + m) / 1440 = n := by omega
  have e2 : (1440 * (n : Int) + m) % 1440 = m := by omega
  have hd := need_ok (i := 1440 * (n : Int) + m) (m := 14399999) (s := s) (by omega)
  simp [f_day_and_minute, mkF, g_day_and_minute, hd, e1, e2, lim_eq]
theorem text_ok {n : Nat} {m : Int} {s : Sto} (hn : n ≤ 9999) (h : 0 ≤ m ∧ m ≤ 1439) : f_moment_text [.int (1440 * n + m)] s = .ok (.str (tx n m)) s := by
  have h1 := TL.numL_len (n := n) (k := 4) (by decide) (by omega)
  have l1 : (TL.numL n).length ≤ 1000000 := by omega
  have l2 : (TL.numL n).length ≤ 999999 := by omega
  have l3 : (TL.numL n).length ≤ 999994 := by omega
  have hc := p_clock (m := m) (s := s) (by omega)
  have wl : (wr m).length = 5 := rfl
  simp [f_moment_text, mkF, g_moment_text, dm_ok hn h, hc, strI_nat, log_ok hn, l1, l2, l3, lim_eq, wl, tx]
theorem anc10 : ancO parT 1 0 = some true := by rfl
theorem t0_ex {x y : D} {k : Int} (h : f_moment_of [x, y] (Tp k) = .exc 1 (Tp k)) : f__law_told [.int 0, x, y] (Tp k) = .ok (.lst [.str [99, 108, 111, 99, 107]]) (Tp k) := by
  simp [f__law_told, mkF, g__law_told, g__law_told_b1, sTry_eq, h, anc10, cls1, lim_eq]
theorem t1_ex {x y : D} {k : Int} (h : f_day_and_minute [x] (Tp k) = .exc 1 (Tp k)) : f__law_told [.int 1, x, y] (Tp k) = .ok (.lst [.str [99, 108, 111, 99, 107]]) (Tp k) := by
  simp [f__law_told, mkF, g__law_told, g__law_told_b1, sTry_eq, h, anc10, cls1, lim_eq]
theorem t2_ex {x y : D} {k : Int} (h : f_moment_text [x] (Tp k) = .exc 1 (Tp k)) : f__law_told [.int 2, x, y] (Tp k) = .ok (.lst [.str [99, 108, 111, 99, 107]]) (Tp k) := by
  simp [f__law_told, mkF, g__law_told, g__law_told_b1, sTry_eq, h, anc10, cls1, lim_eq]
theorem t3_ex {x y : D} {k : Int} (h : f_moment_by [x] (Tp k) = .exc 1 (Tp k)) : f__law_told [.int 3, x, y] (Tp k) = .ok (.lst [.str [99, 108, 111, 99, 107]]) (Tp k) := by
  simp [f__law_told, mkF, g__law_told, g__law_told_b1, sTry_eq, h, anc10, cls1, lim_eq]
theorem t0_ok {x y v : D} {s : Sto} (h : f_moment_of [x, y] s = .ok v s) : f__law_told [.int 0, x, y] s = .ok v s := by
  simp [f__law_told, mkF, g__law_told, g__law_told_b1, sTry_eq, h]
theorem t1_ok {x y v : D} {s : Sto} (h : f_day_and_minute [x] s = .ok v s) : f__law_told [.int 1, x, y] s = .ok v s := by
  simp [f__law_told, mkF, g__law_told, g__law_told_b1, sTry_eq, h]
theorem t2_ok {x y v : D} {s : Sto} (h : f_moment_text [x] s = .ok v s) : f__law_told [.int 2, x, y] s = .ok v s := by
  simp [f__law_told, mkF, g__law_told, g__law_told_b1, sTry_eq, h]
theorem t3_ok {x y v : D} {s : Sto} (h : f_moment_by [x] s = .ok v s) : f__law_told [.int 3, x, y] s = .ok v s := by
  simp [f__law_told, mkF, g__law_told, g__law_told_b1, sTry_eq, h]
theorem p_whole {m : Int} {s : Sto} : f__law_whole [.int m] s = .ok (.bl true) s := by
  simp [f__law_whole, mkF, g__law_whole, bIsA, tyOf, ki, kib]
theorem ktt : kitB "tuple" "tuple" = some true := by decide +kernel
theorem p_right {n : Nat} {m : Int} {s : Sto} (hn : n ≤ 9999) (h : 0 ≤ m ∧ m ≤ 1439) : f__law_right [.int n, .int m] s = .ok (.bl true) s := by
  have r0 : f__law_told [.int 0, .int n, .int m] s = .ok (.int (1440 * n + m)) s := t0_ok (mo_ok (by omega) h)
  have r1 : f__law_told [.int 1, .int (1440 * n + m), .int 0] s = .ok (.tup [.int n, .int m]) s := t1_ok (dm_ok hn h)
  have r2 : f__law_told [.int 2, .int (1440 * n + m), .int 0] s = .ok (.str (tx n m)) s := t2_ok (text_ok hn h)
  have r3 : f__law_told [.int 3, .str (tx n m), .int 0] s = .ok (.int (1440 * n + m)) s := t3_ok (by_tx hn h)
  have c : cMul 1440 (n : Int) = true := cMul_l (by omega)
  simp [f__law_right, mkF, g__law_right, r0, r1, r2, r3, p_whole, c, bIsA, tyOf, ktt, oEq_tt, lim_eq, lcL_cons, bAnyAll, boolsOf, p_written hn h]
end Rb
namespace Rb
open PySem PySem.Spec L2 Mp
theorem cutL_len {α : Type} (xs : List α) (lo hi : Option Int) : (cutL xs lo hi).length ≤ xs.length := by
  unfold cutL
  rw [List.length_take, List.length_drop]
  omega
def chL (z u v w rp : List Nat) (c : Nat) : List D := [.str (u ++ ([c] ++ v)), .str (u ++ ([c] ++ w)), .str (u ++ v), .str (32 :: z), .str (z ++ [32]), .str rp, .str (48 :: z), .str [49, 48, 48, 48, 48, 32, 48, 48, 58, 48, 48], .str [57, 57, 57, 57, 57, 32, 48, 48, 58, 48, 48], .str [53, 32, 50, 52, 58, 48, 48], .str [53, 32, 50, 51, 58, 54, 48],
  .str [57, 57, 57, 57, 32, 50, 51, 58, 53, 57], .str [48, 48, 32, 48, 48, 58, 48, 48], .str [53], .str [32, 48, 48, 58, 48, 48], .str [49, 50, 51, 52, 53, 54, 32, 48, 48, 58, 48, 48]]
theorem p_changed {ns : List Int} {z : List Nat} {k : Int} (hz : 6 ≤ z.length ∧ z.length ≤ 10) (hk : 0 ≤ k ∧ k < 1000) : ∃ z', z'.length ≤ 60 ∧ f__law_changed [.scr ns, .loc 0, .str z] (Tp k) = .ok (.str z') (Tp (k + 3)) := by
  obtain ⟨x, x0, x1, e1⟩ := p_draw (ns := ns) (k := k) (m := (z.length : Int)) (by omega) (by omega)
  obtain ⟨y, y0, y1, e2⟩ := p_draw (ns := ns) (k := k + 1) (m := 17) (by omega) (by omega)
  obtain ⟨w, w0, w1, e3⟩ := p_draw (ns := ns) (k := k + 1 + 1) (m := 16) (by omega) (by omega)
  obtain ⟨c, hc, _⟩ := atI_ex (xs := [48, 49, 50, 51, 52, 53, 54, 55, 56, 57, 58, 59, 45, 32, 46, 47, 97]) (i := y) (Q := fun _ => True) (by omega) (by simp; omega) (by simp)
  have hl : z.length ≤ lim := by rw [lim_eq]; omega
  have o1 : ∀ s, oSl (.str z) none (some x) s = .ok (.str (cutL z none (some x))) s := fun s => oSl_str hl
  have o2 : ∀ s, oSl (.str z) (some (x + 1)) none s = .ok (.str (cutL z (some (x + 1)) none)) s := fun s => oSl_str hl
  have o3 : ∀ s, oSl (.str z) (some x) none s = .ok (.str (cutL z (some x) none)) s := fun s => oSl_str hl
  have l1 := cutL_len z none (some x)
  have l2 := cutL_len z (some (x + 1)) none
  have l3 := cutL_len z (some x) none
  have lr : (un (Txt.replace (S z) (S [32]) (S [32, 32]))).length ≤ 40 := by
    have := TK.replace_len (S z) (S [32]) (S [32, 32])
    rw [S_len, S_len] at this
    have e : (un (Txt.replace (S z) (S [32]) (S [32, 32]))).length = (Txt.replace (S z) (S [32]) (S [32, 32])).length := by simp [un, Str.length]
    rw [e]
    simp at this
    omega
  generalize hr : un (Txt.replace (S z) (S [32]) (S [32, 32])) = rp at lr
  generalize cutL z none (some x) = u at o1 l1
  generalize cutL z (some (x + 1)) none = v at o2 l2
  generalize cutL z (some x) none = t at o3 l3
  obtain ⟨d, hd, z', rfl, hz'⟩ := atI_ex (xs := chL z u v t rp c) (i := w) (Q := fun d => ∃ z', d = .str z' ∧ z'.length ≤ 60) (by omega) (by simp [chL]; omega) (by
    simp only [chL, List.mem_cons, List.not_mem_nil, or_false]
    rintro d (rfl | rfl | rfl | rfl | rfl | rfl | rfl | rfl | rfl | rfl | rfl | rfl | rfl | rfl | rfl | rfl)
    all_goals exact ⟨_, rfl, by first | omega | (simp; done) | (simp; omega)⟩)
  refine ⟨z', hz', ?_⟩
  have a1 : u.length + 1 ≤ 1000000 := by omega
  have a2 : u.length + 1 + v.length ≤ 1000000 := by omega
  have a3 : u.length + 1 + t.length ≤ 1000000 := by omega
  have a4 : u.length + v.length ≤ 1000000 := by omega
  have a5 : z.length ≤ 999999 := by omega
  have a6 : z.length ≤ 1000000 := by omega
  have a8 : 1 + z.length ≤ 1000000 := by omega
  have a7 : z.length + (z.length + 1) * 2 ≤ 1000000 := by omega
  simp only [chL, List.cons_append, List.nil_append, List.append_assoc] at hd
  have e4 : k + 1 + 1 + 1 = k + 3 := by omega
  have sl : (S [32, 32]).length = 2 := S_len _
  simp [f__law_changed, mkF, g__law_changed, e1, e2, e3, hc, o1, o2, o3, a1, a2, a3, a4, a5, a6, a7, a8, hd, lim_eq, e4, hr, sl]
theorem first_in {x : Nat} : ∀ {z : List Nat}, x ∈ z → ∃ w c, z = w ++ x :: c ∧ x ∉ w
  | [], h => by cases h
  | a :: r, h => by
    by_cases ha : a = x
    · subst ha; exact ⟨[], r, rfl, by simp⟩
    · have hr : x ∈ r := by
        rcases List.mem_cons.mp h with h | h
        · exact absurd h.symm ha
        · exact h
      obtain ⟨w, c, e, hw⟩ := first_in hr
      exact ⟨a :: w, c, by rw [e]; rfl, by simp; exact ⟨fun h => ha h.symm, hw⟩⟩
theorem p_turn {ns : List Int} {k : Int} {o2 o3 o4 o5 o6 o7 o8 o9 o10 o11 o12 : Option D} (hk : 0 ≤ k ∧ k < 500) : ∃ p3 p4 p5 p6 p7,
    g_law_b1 [some (.scr ns), some (.loc 0), o2, o3, o4, o5, o6, o7, o8, o9, o10, o11, o12] (Tp k) = .nx [some (.scr ns), some (.loc 0), o2, p3, p4, p5, p6, p7, o8, o9, o10, o11, o12] (Tp (k + 7)) := by
  obtain ⟨a, a0, a1, e1⟩ := p_draw (ns := ns) (k := k) (m := 10000) (by omega) (by omega)
  obtain ⟨b, b0, b1, e2⟩ := p_draw (ns := ns) (k := k + 1) (m := 9) (by omega) (by omega)
  obtain ⟨c, c0, c1, e3⟩ := p_draw (ns := ns) (k := k + 1 + 1) (m := 1440) (by omega) (by omega)
  obtain ⟨w, w0, w1, e4⟩ := p_draw (ns := ns) (k := k + 1 + 1 + 1) (m := 5) (by omega) (by omega)
  obtain ⟨d, hd, n, rfl, hn⟩ := atI_ex (xs := [D.int 0, .int 9999, .int 9, .int 10, .int 99, .int 100, .int 999, .int 1000, .int a]) (i := b) (Q := fun d => ∃ n : Nat, d = D.int n ∧ n ≤ 9999) (by omega) (by simp; omega) (by
    simp only [List.mem_cons, List.not_mem_nil, or_false]
    rintro d (rfl | rfl | rfl | rfl | rfl | rfl | rfl | rfl | rfl)
    · exact ⟨0, rfl, by omega⟩
    · exact ⟨9999, rfl, by omega⟩
    · exact ⟨9, rfl, by omega⟩
    · exact ⟨10, rfl, by omega⟩
    · exact ⟨99, rfl, by omega⟩
    · exact ⟨100, rfl, by omega⟩
    · exact ⟨999, rfl, by omega⟩
    · exact ⟨1000, rfl, by omega⟩
    · exact ⟨a.toNat, by rw [Int.toNat_of_nonneg a0], by omega⟩)
  obtain ⟨d, hm', m, rfl, hm⟩ := atI_ex (xs := [D.int 0, .int 1439, .int 59, .int 60, .int c]) (i := w) (Q := fun d => ∃ m, d = D.int m ∧ 0 ≤ m ∧ m ≤ 1439) (by omega) (by simp; omega) (by
    simp only [List.mem_cons, List.not_mem_nil, or_false]
    rintro d (rfl | rfl | rfl | rfl | rfl)
    all_goals exact ⟨_, rfl, by omega⟩)
  have r1 : ∀ s, f__law_written [.int n, .int m] s = .ok (.str (tx n m)) s := fun s => p_written hn hm
  have r2 : ∀ s, f__law_right [.int n, .int m] s = .ok (.bl true) s := fun s => p_right hn hm
  obtain ⟨z, hz, e5⟩ := p_changed (ns := ns) (z := tx n m) (k := k + 1 + 1 + 1 + 1) (tx_len hn) (by omega)
  have e6 : k + 1 + 1 + 1 + 1 + 3 = k + 7 := by omega
  rw [e6] at e5
  have key : (∃ q, f__law_due [.str z] (Tp (k + 7)) = .ok (.int q) (Tp (k + 7)) ∧ f__law_told [.int 3, .str z, .int 0] (Tp (k + 7)) = .ok (.int q) (Tp (k + 7))) ∨
      (f__law_due [.str z] (Tp (k + 7)) = .ok .non (Tp (k + 7)) ∧ f__law_told [.int 3, .str z, .int 0] (Tp (k + 7)) = .ok (.lst [.str [99, 108, 111, 99, 107]]) (Tp (k + 7))) := by
    by_cases hb : 32 ∈ z
    · obtain ⟨w, c, e, hw⟩ := first_in hb
      rw [e] at hz ⊢
      have h1 := due_some (c := c) (s := Tp (k + 7)) hw (by omega)
      have h2 := by_some (c := c) (s := Tp (k + 7)) hw (by omega)
      cases q : dueM w c with
      | some q' =>
        rw [q] at h1 h2
        exact .inl ⟨q', h1, t3_ok h2⟩
      | none =>
        rw [q] at h1 h2
        exact .inr ⟨h1, t3_ex h2⟩
    · exact .inr ⟨due_none hb (by omega), t3_ex (by_none hb (by omega))⟩
  rcases key with ⟨q, h1, h2⟩ | ⟨h1, h2⟩
  · simp [g_law_b1, e1, e2, e3, e4, hd, hm', lim_eq, r1, r2, e5, h1, h2, p_whole]
  · simp [g_law_b1, e1, e2, e3, e4, hd, hm', lim_eq, r1, r2, e5, h1, h2, p_whole, oEq_ll, okS]
end Rb
namespace Rb
open PySem PySem.Spec L2 Mp
def Bad (x : D) (m : Int) : Prop := ∀ s, f_need_among [x, .int m] s = .exc 1 s
theorem bad_int {i m : Int} (h : ¬ (0 ≤ i ∧ i ≤ m)) : Bad (.int i) m := fun s => need_bad h
theorem bad_else {x : D} {m : Int} (h : (∃ b, x = .bl b) ∨ x = .non ∨ (∃ z, x = .str z) ∨ (∃ z, x = .lst z) ∨ (∃ z, x = .tup z) ∨ x = .dct [] []) : Bad x m := fun s => by
  rcases h with ⟨b, rfl⟩ | rfl | ⟨z, rfl⟩ | ⟨z, rfl⟩ | ⟨z, rfl⟩ | rfl
  all_goals simp [f_need_among, mkF, g_need_among, f_is_among, g_is_among, bIsA, tyOf, kbi, kbb, kni, ksi, kli, kti, kdi]
theorem bad_dm {x : D} {s : Sto} (h : Bad x 14399999) : f_day_and_minute [x] s = .exc 1 s := by
  simp [f_day_and_minute, mkF, g_day_and_minute, h s]
theorem bad_tx {x : D} {s : Sto} (h : Bad x 14399999) : f_moment_text [x] s = .exc 1 s := by
  simp [f_moment_text, mkF, g_moment_text, bad_dm h]
theorem bad_by {x : D} {s : Sto} (h : (∃ i, x = .int i) ∨ (∃ b, x = .bl b) ∨ x = .non ∨ (∃ z, x = .lst z) ∨ (∃ z, x = .tup z) ∨ x = .dct [] []) : f_moment_by [x] s = .exc 1 s := by
  rcases h with ⟨i, rfl⟩ | ⟨b, rfl⟩ | rfl | ⟨z, rfl⟩ | ⟨z, rfl⟩ | rfl
  all_goals simp [f_moment_by, mkF, g_moment_by, bIsA, tyOf, kis, kbs, kns, kls, kts, kds]
theorem pure_law (ns : List Int) (h : ns.length ≤ 63) : f_law [.scr ns] [] = .ok (.bl true) [] := by
  obtain ⟨δ', s', e, o2, o3, o4, o5, o6, o7, eδ, es⟩ := forL_ok (fun i δ s => ∃ (o2 o3 o4 o5 o6 o7 : Option D), δ = [some (.scr ns), some (.loc 0), o2, o3, o4, o5, o6, o7, none, none, none, none, none] ∧ s = Tp (7 * (i : Int))) (t := tgN 2) (b := g_law_b1) (intsD 0 6) 0 (by
    rintro i d δ s hd ⟨o2, o3, o4, o5, o6, o7, rfl, rfl⟩
    have hi : i < 6 := by
      have := (List.getElem?_eq_some_iff.mp hd).1
      simpa [intsD] using this
    obtain ⟨p3, p4, p5, p6, p7, e⟩ := p_turn (ns := ns) (k := 7 * ((0 + i : Nat) : Int)) (o2 := some d) (o3 := o3) (o4 := o4) (o5 := o5) (o6 := o6) (o7 := o7) (o8 := none) (o9 := none) (o10 := none) (o11 := none) (o12 := none) (by omega)
    refine ⟨_, _, _, rfl, .inl e, some d, p3, p4, p5, p6, p7, rfl, ?_⟩
    congr 3) [some (.scr ns), some (.loc 0), none, none, none, none, none, none, none, none, none, none, none] (Tp 0) ⟨none, none, none, none, none, none, rfl, rfl⟩
  subst eδ es
  have hl : (7 * ((0 + (intsD 0 6).length : Nat) : Int)) = 42 := by rfl
  rw [hl] at e
  obtain ⟨x, x0, x1, e1⟩ := p_draw (ns := ns) (k := 42) (m := 1000000000) (by omega) (by omega)
  have e43 : (42 : Int) + 1 = 43 := by rfl
  rw [e43] at e1
  obtain ⟨od, h1, q1⟩ := atI_ex (xs := [D.int (-1), .bl true, .non, .str [53], .lst [.int 5], .dct [] [], .bl false, .tup [.int 5], .int 100000000000000000000]) (i := x % 9) (Q := fun d => ∀ m : Int, m ≤ 14399999 → Bad d m) (by omega) (by simp; omega) (by
    simp only [List.mem_cons, List.not_mem_nil, or_false]
    rintro d (rfl | rfl | rfl | rfl | rfl | rfl | rfl | rfl | rfl) m hm
    · exact bad_int (by omega)
    · exact bad_else (.inl ⟨_, rfl⟩)
    · exact bad_else (.inr (.inl rfl))
    · exact bad_else (.inr (.inr (.inl ⟨_, rfl⟩)))
    · exact bad_else (.inr (.inr (.inr (.inl ⟨_, rfl⟩))))
    · exact bad_else (.inr (.inr (.inr (.inr (.inr rfl)))))
    · exact bad_else (.inl ⟨_, rfl⟩)
    · exact bad_else (.inr (.inr (.inr (.inr (.inl ⟨_, rfl⟩)))))
    · exact bad_int (by omega))
  obtain ⟨dy, h2, q2⟩ := atI_ex (xs := [D.int 10000, od]) (i := x / 9 % 2) (Q := fun d => Bad d 9999) (by omega) (by simp; omega) (by
    simp only [List.mem_cons, List.not_mem_nil, or_false]
    rintro d (rfl | rfl)
    · exact bad_int (by omega)
    · exact q1 _ (by omega))
  obtain ⟨mi, h3, q3⟩ := atI_ex (xs := [D.int 1440, od, .int 2879]) (i := x / 18 % 3) (Q := fun d => Bad d 1439) (by omega) (by simp; omega) (by
    simp only [List.mem_cons, List.not_mem_nil, or_false]
    rintro d (rfl | rfl | rfl)
    · exact bad_int (by omega)
    · exact q1 _ (by omega)
    · exact bad_int (by omega))
  obtain ⟨mo, h4, q4⟩ := atI_ex (xs := [D.int 14400000, od]) (i := x / 54 % 2) (Q := fun d => Bad d 14399999) (by omega) (by simp; omega) (by
    simp only [List.mem_cons, List.not_mem_nil, or_false]
    rintro d (rfl | rfl)
    · exact bad_int (by omega)
    · exact q1 _ (by omega))
  obtain ⟨th, h5, q5⟩ := atI_ex (xs := [D.int 5, .non, .bl true, .lst [.str [48, 32, 48, 48, 58, 48, 48]], .dct [] [], .tup [.str [48], .str [48, 48, 58, 48, 48]]]) (i := x / 108 % 6) (Q := fun d => f_moment_by [d] (Tp 43) = .exc 1 (Tp 43)) (by omega) (by simp; omega) (by
    simp only [List.mem_cons, List.not_mem_nil, or_false]
    rintro d (rfl | rfl | rfl | rfl | rfl | rfl)
    all_goals refine bad_by ?_
    · exact .inl ⟨_, rfl⟩
    · exact .inr (.inr (.inl rfl))
    · exact .inr (.inl ⟨_, rfl⟩)
    · exact .inr (.inr (.inr (.inl ⟨_, rfl⟩)))
    · exact .inr (.inr (.inr (.inr (.inr rfl))))
    · exact .inr (.inr (.inr (.inr (.inl ⟨_, rfl⟩)))))
  have t1 := t0_ex (y := .int 0) (mo_bad1 (y := .int 0) (q2 (Tp 43)))
  have t2 := t0_ex (mo_bad2 (d := 9999) (by omega) (q3 (Tp 43)))
  have t3 := t1_ex (y := .int 0) (bad_dm q4 (s := Tp 43))
  have t4 := t2_ex (y := .int 0) (bad_tx q4 (s := Tp 43))
  have t5 := t3_ex (y := .int 0) q5
  have t6 := t0_ex (y := mi) (mo_bad1 (y := mi) (q2 (Tp 43)))
  have p1 : cPow 10 9 = true := by decide
  have p2 : cPow 10 20 = true := by decide
  have s6 : small62 6 = true := by decide
  simp [f_law, mkF, g_law, e, e1, h1, h2, h3, h4, h5, t1, t2, t3, t4, t5, t6, p1, p2, s6, lim_eq, oEq_ll, okS, List.replicate]
  rfl
end Rb
namespace Rb
open PySem PySem.Spec L2 Mp
/-! ### the head -/
def d_is_among : He.DefD := ⟨("is_among", none), "is_among", "is_among", defArgs s_is_among, defBody s_is_among, defScope s_is_among, [], []⟩
def d_are_figures : He.DefD := ⟨("are_figures", none), "are_figures", "are_figures", defArgs s_are_figures, defBody s_are_figures, defScope s_are_figures, [], []⟩
def d_number_of : He.DefD := ⟨("number_of", none), "number_of", "number_of", defArgs s_number_of, defBody s_number_of, defScope s_number_of, [], []⟩
def d_need_among : He.DefD := ⟨("need_among", none), "need_among", "need_among", defArgs s_need_among, defBody s_need_among, defScope s_need_among, [], []⟩
def d_clock_text : He.DefD := ⟨("clock_text", none), "clock_text", "clock_text", defArgs s_clock_text, defBody s_clock_text, defScope s_clock_text, [], []⟩
def d_minute_of : He.DefD := ⟨("minute_of", none), "minute_of", "minute_of", defArgs s_minute_of, defBody s_minute_of, defScope s_minute_of, [], []⟩
def d_moment_of : He.DefD := ⟨("moment_of", none), "moment_of", "moment_of", defArgs s_moment_of, defBody s_moment_of, defScope s_moment_of, [], []⟩
def d_day_and_minute : He.DefD := ⟨("day_and_minute", none), "day_and_minute", "day_and_minute", defArgs s_day_and_minute, defBody s_day_and_minute, defScope s_day_and_minute, [], []⟩
def d_moment_text : He.DefD := ⟨("moment_text", none), "moment_text", "moment_text", defArgs s_moment_text, defBody s_moment_text, defScope s_moment_text, [], []⟩
def d_moment_by : He.DefD := ⟨("moment_by", none), "moment_by", "moment_by", defArgs s_moment_by, defBody s_moment_by, defScope s_moment_by, [], []⟩
def d__law_cell : He.DefD := ⟨("_law_cell", none), "_law_cell", "_law_cell", defArgs s__law_cell, defBody s__law_cell, defScope s__law_cell, [], []⟩
def d__law_draw : He.DefD := ⟨("_law_draw", none), "_law_draw", "_law_draw", defArgs s__law_draw, defBody s__law_draw, defScope s__law_draw, [], []⟩
def d__law_whole : He.DefD := ⟨("_law_whole", none), "_law_whole", "_law_whole", defArgs s__law_whole, defBody s__law_whole, defScope s__law_whole, [], []⟩
def d__law_class : He.DefD := ⟨("_law_class", none), "_law_class", "_law_class", defArgs s__law_class, defBody s__law_class, defScope s__law_class, [], []⟩
def d__law_written : He.DefD := ⟨("_law_written", none), "_law_written", "_law_written", defArgs s__law_written, defBody s__law_written, defScope s__law_written, [], []⟩
def d__law_due : He.DefD := ⟨("_law_due", none), "_law_due", "_law_due", defArgs s__law_due, defBody s__law_due, defScope s__law_due, [], []⟩
def d__law_told : He.DefD := ⟨("_law_told", none), "_law_told", "_law_told", defArgs s__law_told, defBody s__law_told, defScope s__law_told, [], []⟩
def d__law_changed : He.DefD := ⟨("_law_changed", none), "_law_changed", "_law_changed", defArgs s__law_changed, defBody s__law_changed, defScope s__law_changed, [], []⟩
def d__law_right : He.DefD := ⟨("_law_right", none), "_law_right", "_law_right", defArgs s__law_right, defBody s__law_right, defScope s__law_right, [], []⟩
def d_law : He.DefD := ⟨("law", none), "law", "law", defArgs s_law, defBody s_law, defScope s_law, [], []⟩
def fn : List He.DefD := [d_is_among, d_are_figures, d_number_of, d_need_among, d_clock_text, d_minute_of, d_moment_of, d_day_and_minute, d_moment_text, d_moment_by, d__law_cell, d__law_draw, d__law_whole, d__law_class, d__law_written, d__law_due, d__law_told, d__law_changed, d__law_right, d_law]
def fa : List He.Fa := [.glo "is_among", .glo "are_figures", .glo "number_of", .glo "need_among", .glo "clock_text", .glo "minute_of", .glo "moment_of", .glo "day_and_minute", .glo "moment_text", .glo "moment_by", .glo "_law_cell", .glo "_law_draw", .glo "_law_whole", .glo "_law_class", .glo "_law_written", .glo "_law_due", .glo "_law_told", .glo "_law_changed", .glo "_law_right", .glo "law", .free "ValueError", .free "all", .free "bool", .free "divmod", .free "int", .free "isinstance", .free "len", .free "max", .free "range", .free "str", .free "tuple", .str "FIGURES" (S [48, 49, 50, 51, 52, 53, 54, 55, 56, 57]), .int "MOST_FIGURES" 5, .int "LAST_DAY" 9999, .int "DAY" 1440, .int "LAST_MINUTE" 2879, .int "LAST_MOMENT" 14399999, .glo "RoadError", .glo "BadClock", .glo "BadRule", .glo "TooMany", .glo "BadName", .glo "Twice", .glo "NoStop", .glo "BadNumber", .glo "BadCalls", .glo "NoRun", .glo "TooLate", .glo "NoTraveller", .glo "BadLine"]
abbrev R : PySem.W.OpenRow := PySem.W.OpenLaw.row PySem.Challenge.rw_roadbook_k02_moments
abbrev exK : PySem.W.Frag → Bool := exB caT parT
abbrev hk : PySem.W.Hook := Mp.hookE 4 fa fn exK
def ob (s : PySem.W.SharedT) : Mp.AlE := Mp.obsEG 4 fa fn exK (HandSHeadRun.getT s)
theorem ob_eq (s : PySem.W.SharedT) : ob s = hk.obs s.abs := Mp.obsEG_eq (HandSHeadRun.getT_eq s)
def loose0 : List Str := ["RoadError", "BadClock", "BadRule", "TooMany", "BadName", "Twice", "NoStop", "BadNumber", "BadCalls", "NoRun", "TooLate", "NoTraveller", "BadLine", "FIGURES", "MOST_FIGURES", "LAST_DAY", "DAY", "LAST_MINUTE", "LAST_MOMENT", "is_among", "are_figures", "number_of", "need_among", "clock_text", "minute_of", "moment_of", "day_and_minute", "moment_text", "moment_by", "_law_cell"]
def loose1 : List Str := ["_law_draw", "_law_whole", "_law_class", "_law_written", "_law_due", "_law_told", "_law_changed", "_law_right"]
abbrev loose : List Str := loose0 ++ loose1
theorem run (w : World) : HandSHeadRun.RunEq R (PySem.W.view R.prog [41]) hk ob 4000 loose w := by
  intro os
  kernel_rfl
section
variable {P : Program} {w : World} {K : PySem.W.Frag} {h : Heap} {mg : Str → Option Value} {f : Addr}
theorem txt (X : K.In h) (G : h.Ns mainGlobals mg) (c : Mp.SaysE fa fn exK K) : Txt K mg where
  f_ValueError := He.free_ok X G (c.d.fact 20 (f := .free "ValueError") rfl)
  f_all := He.free_ok X G (c.d.fact 21 (f := .free "all") rfl)
  f_bool := He.free_ok X G (c.d.fact 22 (f := .free "bool") rfl)
  f_divmod := He.free_ok X G (c.d.fact 23 (f := .free "divmod") rfl)
  f_int := He.free_ok X G (c.d.fact 24 (f := .free "int") rfl)
  f_isinstance := He.free_ok X G (c.d.fact 25 (f := .free "isinstance") rfl)
  f_len := He.free_ok X G (c.d.fact 26 (f := .free "len") rfl)
  f_max := He.free_ok X G (c.d.fact 27 (f := .free "max") rfl)
  f_range := He.free_ok X G (c.d.fact 28 (f := .free "range") rfl)
  f_str := He.free_ok X G (c.d.fact 29 (f := .free "str") rfl)
  f_tuple := He.free_ok X G (c.d.fact 30 (f := .free "tuple") rfl)
  k_FIGURES := let ⟨t, e⟩ := He.str_ok X G (c.d.fact 31 (f := .str "FIGURES" (S [48, 49, 50, 51, 52, 53, 54, 55, 56, 57])) rfl); ⟨_, e, _, rfl⟩
  k_MOST_FIGURES := let ⟨t, e⟩ := He.int_ok X G (c.d.fact 32 (f := .int "MOST_FIGURES" 5) rfl); ⟨_, e, _, rfl⟩
  k_LAST_DAY := let ⟨t, e⟩ := He.int_ok X G (c.d.fact 33 (f := .int "LAST_DAY" 9999) rfl); ⟨_, e, _, rfl⟩
  k_DAY := let ⟨t, e⟩ := He.int_ok X G (c.d.fact 34 (f := .int "DAY" 1440) rfl); ⟨_, e, _, rfl⟩
  k_LAST_MINUTE := let ⟨t, e⟩ := He.int_ok X G (c.d.fact 35 (f := .int "LAST_MINUTE" 2879) rfl); ⟨_, e, _, rfl⟩
  k_LAST_MOMENT := let ⟨t, e⟩ := He.int_ok X G (c.d.fact 36 (f := .int "LAST_MOMENT" 14399999) rfl); ⟨_, e, _, rfl⟩
  c_RoadError := He.glo_ok X G (c.d.fact 37 (f := .glo "RoadError") rfl)
  c_BadClock := He.glo_ok X G (c.d.fact 38 (f := .glo "BadClock") rfl)
  c_BadRule := He.glo_ok X G (c.d.fact 39 (f := .glo "BadRule") rfl)
  c_TooMany := He.glo_ok X G (c.d.fact 40 (f := .glo "TooMany") rfl)
  c_BadName := He.glo_ok X G (c.d.fact 41 (f := .glo "BadName") rfl)
  c_Twice := He.glo_ok X G (c.d.fact 42 (f := .glo "Twice") rfl)
  c_NoStop := He.glo_ok X G (c.d.fact 43 (f := .glo "NoStop") rfl)
  c_BadNumber := He.glo_ok X G (c.d.fact 44 (f := .glo "BadNumber") rfl)
  c_BadCalls := He.glo_ok X G (c.d.fact 45 (f := .glo "BadCalls") rfl)
  c_NoRun := He.glo_ok X G (c.d.fact 46 (f := .glo "NoRun") rfl)
  c_TooLate := He.glo_ok X G (c.d.fact 47 (f := .glo "TooLate") rfl)
  c_NoTraveller := He.glo_ok X G (c.d.fact 48 (f := .glo "NoTraveller") rfl)
  c_BadLine := He.glo_ok X G (c.d.fact 49 (f := .glo "BadLine") rfl)
  xt := exT_of c.more
theorem cl_is_among {base : Heap} (X : K.In h) (G : h.Ns mainGlobals mg) (c : Mp.SaysE fa fn exK K) : Cl (tb K) P w mg base "is_among" 1 3 f_is_among := by
  obtain ⟨fd, F⟩ := c.d.def_ 0 (d := d_is_among) rfl
  exact ⟨_, fd, ["thing", "least", "most"], He.glo_ok X G (c.d.fact 0 (f := .glo "is_among") rfl), F.kp, F.bindsN fun _ _ _ _ _ _ us hl => match us, hl with | [_, _, _], _ => rfl, fn_d (T := tb K) F sc_is_among fun cdv A outer s H E hr => b_is_among (txt X G c)  cdv A outer s H E hr⟩
theorem cl_are_figures {base : Heap} (X : K.In h) (G : h.Ns mainGlobals mg) (c : Mp.SaysE fa fn exK K) : Cl (tb K) P w mg base "are_figures" 1 1 f_are_figures := by
  obtain ⟨fd, F⟩ := c.d.def_ 1 (d := d_are_figures) rfl
  exact ⟨_, fd, ["word"], He.glo_ok X G (c.d.fact 1 (f := .glo "are_figures") rfl), F.kp, F.bindsN fun _ _ _ _ _ _ us hl => match us, hl with | [_], _ => rfl, fn_d (T := tb K) F sc_are_figures fun cdv A outer s H E hr => b_are_figures (txt X G c)  cdv A outer s H E hr⟩
theorem cl_number_of {base : Heap} (X : K.In h) (G : h.Ns mainGlobals mg) (c : Mp.SaysE fa fn exK K) : Cl (tb K) P w mg base "number_of" 2 1 f_number_of := by
  obtain ⟨fd, F⟩ := c.d.def_ 2 (d := d_number_of) rfl
  exact ⟨_, fd, ["word"], He.glo_ok X G (c.d.fact 2 (f := .glo "number_of") rfl), F.kp, F.bindsN fun _ _ _ _ _ _ us hl => match us, hl with | [_], _ => rfl, fn_d (T := tb K) F sc_number_of fun cdv A outer s H E hr => b_number_of (txt X G c) (cl_are_figures X G c) cdv A outer s H E hr⟩
theorem cl_need_among {base : Heap} (X : K.In h) (G : h.Ns mainGlobals mg) (c : Mp.SaysE fa fn exK K) : Cl (tb K) P w mg base "need_among" 2 2 f_need_among := by
  obtain ⟨fd, F⟩ := c.d.def_ 3 (d := d_need_among) rfl
  exact ⟨_, fd, ["thing", "most"], He.glo_ok X G (c.d.fact 3 (f := .glo "need_among") rfl), F.kp, F.bindsN fun _ _ _ _ _ _ us hl => match us, hl with | [_, _], _ => rfl, fn_d (T := tb K) F sc_need_among fun cdv A outer s H E hr => b_need_among (txt X G c) (cl_is_among X G c) cdv A outer s H E hr⟩
theorem cl_clock_text {base : Heap} (X : K.In h) (G : h.Ns mainGlobals mg) (c : Mp.SaysE fa fn exK K) : Cl (tb K) P w mg base "clock_text" 3 1 f_clock_text := by
  obtain ⟨fd, F⟩ := c.d.def_ 4 (d := d_clock_text) rfl
  exact ⟨_, fd, ["minute"], He.glo_ok X G (c.d.fact 4 (f := .glo "clock_text") rfl), F.kp, F.bindsN fun _ _ _ _ _ _ us hl => match us, hl with | [_], _ => rfl, fn_d (T := tb K) F sc_clock_text fun cdv A outer s H E hr => b_clock_text (txt X G c) (cl_need_among X G c) cdv A outer s H E hr⟩
theorem cl_minute_of {base : Heap} (X : K.In h) (G : h.Ns mainGlobals mg) (c : Mp.SaysE fa fn exK K) : Cl (tb K) P w mg base "minute_of" 2 1 f_minute_of := by
  obtain ⟨fd, F⟩ := c.d.def_ 5 (d := d_minute_of) rfl
  exact ⟨_, fd, ["text"], He.glo_ok X G (c.d.fact 5 (f := .glo "minute_of") rfl), F.kp, F.bindsN fun _ _ _ _ _ _ us hl => match us, hl with | [_], _ => rfl, fn_d (T := tb K) F sc_minute_of fun cdv A outer s H E hr => b_minute_of (txt X G c) (cl_are_figures X G c) cdv A outer s H E hr⟩
theorem cl_moment_of {base : Heap} (X : K.In h) (G : h.Ns mainGlobals mg) (c : Mp.SaysE fa fn exK K) : Cl (tb K) P w mg base "moment_of" 3 2 f_moment_of := by
  obtain ⟨fd, F⟩ := c.d.def_ 6 (d := d_moment_of) rfl
  exact ⟨_, fd, ["day", "minute"], He.glo_ok X G (c.d.fact 6 (f := .glo "moment_of") rfl), F.kp, F.bindsN fun _ _ _ _ _ _ us hl => match us, hl with | [_, _], _ => rfl, fn_d (T := tb K) F sc_moment_of fun cdv A outer s H E hr => b_moment_of (txt X G c) (cl_need_among X G c) cdv A outer s H E hr⟩
theorem cl_day_and_minute {base : Heap} (X : K.In h) (G : h.Ns mainGlobals mg) (c : Mp.SaysE fa fn exK K) : Cl (tb K) P w mg base "day_and_minute" 3 1 f_day_and_minute := by
  obtain ⟨fd, F⟩ := c.d.def_ 7 (d := d_day_and_minute) rfl
  exact ⟨_, fd, ["moment"], He.glo_ok X G (c.d.fact 7 (f := .glo "day_and_minute") rfl), F.kp, F.bindsN fun _ _ _ _ _ _ us hl => match us, hl with | [_], _ => rfl, fn_d (T := tb K) F sc_day_and_minute fun cdv A outer s H E hr => b_day_and_minute (txt X G c) (cl_need_among X G c) cdv A outer s H E hr⟩
theorem cl_moment_text {base : Heap} (X : K.In h) (G : h.Ns mainGlobals mg) (c : Mp.SaysE fa fn exK K) : Cl (tb K) P w mg base "moment_text" 4 1 f_moment_text := by
  obtain ⟨fd, F⟩ := c.d.def_ 8 (d := d_moment_text) rfl
  exact ⟨_, fd, ["moment"], He.glo_ok X G (c.d.fact 8 (f := .glo "moment_text") rfl), F.kp, F.bindsN fun _ _ _ _ _ _ us hl => match us, hl with | [_], _ => rfl, fn_d (T := tb K) F sc_moment_text fun cdv A outer s H E hr => b_moment_text (txt X G c) (cl_day_and_minute X G c) (cl_clock_text X G c) cdv A outer s H E hr⟩
theorem cl_moment_by {base : Heap} (X : K.In h) (G : h.Ns mainGlobals mg) (c : Mp.SaysE fa fn exK K) : Cl (tb K) P w mg base "moment_by" 4 1 f_moment_by := by
  obtain ⟨fd, F⟩ := c.d.def_ 9 (d := d_moment_by) rfl
  exact ⟨_, fd, ["text"], He.glo_ok X G (c.d.fact 9 (f := .glo "moment_by") rfl), F.kp, F.bindsN fun _ _ _ _ _ _ us hl => match us, hl with | [_], _ => rfl, fn_d (T := tb K) F sc_moment_by fun cdv A outer s H E hr => b_moment_by (txt X G c) (cl_number_of X G c) (cl_moment_of X G c) (cl_minute_of X G c) cdv A outer s H E hr⟩
theorem cl__law_cell {base : Heap} (X : K.In h) (G : h.Ns mainGlobals mg) (c : Mp.SaysE fa fn exK K) : Cl (tb K) P w mg base "_law_cell" 1 2 f__law_cell := by
  obtain ⟨fd, F⟩ := c.d.def_ 10 (d := d__law_cell) rfl
  exact ⟨_, fd, ["_law_script", "_law_k"], He.glo_ok X G (c.d.fact 10 (f := .glo "_law_cell") rfl), F.kp, F.bindsN fun _ _ _ _ _ _ us hl => match us, hl with | [_, _], _ => rfl, fn_d (T := tb K) F sc__law_cell fun cdv A outer s H E hr => b__law_cell (txt X G c)  cdv A outer s H E hr⟩
theorem cl__law_draw {base : Heap} (X : K.In h) (G : h.Ns mainGlobals mg) (c : Mp.SaysE fa fn exK K) : Cl (tb K) P w mg base "_law_draw" 2 3 f__law_draw := by
  obtain ⟨fd, F⟩ := c.d.def_ 11 (d := d__law_draw) rfl
  exact ⟨_, fd, ["_law_script", "_law_tape", "_law_many"], He.glo_ok X G (c.d.fact 11 (f := .glo "_law_draw") rfl), F.kp, F.bindsN fun _ _ _ _ _ _ us hl => match us, hl with | [_, _, _], _ => rfl, fn_d (T := tb K) F sc__law_draw fun cdv A outer s H E hr => b__law_draw (txt X G c) (cl__law_cell X G c) cdv A outer s H E hr⟩
theorem cl__law_whole {base : Heap} (X : K.In h) (G : h.Ns mainGlobals mg) (c : Mp.SaysE fa fn exK K) : Cl (tb K) P w mg base "_law_whole" 1 1 f__law_whole := by
  obtain ⟨fd, F⟩ := c.d.def_ 12 (d := d__law_whole) rfl
  exact ⟨_, fd, ["_law_found"], He.glo_ok X G (c.d.fact 12 (f := .glo "_law_whole") rfl), F.kp, F.bindsN fun _ _ _ _ _ _ us hl => match us, hl with | [_], _ => rfl, fn_d (T := tb K) F sc__law_whole fun cdv A outer s H E hr => b__law_whole (txt X G c)  cdv A outer s H E hr⟩
theorem cl__law_class {base : Heap} (X : K.In h) (G : h.Ns mainGlobals mg) (c : Mp.SaysE fa fn exK K) : Cl (tb K) P w mg base "_law_class" 1 1 f__law_class := by
  obtain ⟨fd, F⟩ := c.d.def_ 13 (d := d__law_class) rfl
  exact ⟨_, fd, ["_law_error"], He.glo_ok X G (c.d.fact 13 (f := .glo "_law_class") rfl), F.kp, F.bindsN fun _ _ _ _ _ _ us hl => match us, hl with | [_], _ => rfl, fn_d (T := tb K) F sc__law_class fun cdv A outer s H E hr => b__law_class (txt X G c)  cdv A outer s H E hr⟩
theorem cl__law_written {base : Heap} (X : K.In h) (G : h.Ns mainGlobals mg) (c : Mp.SaysE fa fn exK K) : Cl (tb K) P w mg base "_law_written" 1 2 f__law_written := by
  obtain ⟨fd, F⟩ := c.d.def_ 14 (d := d__law_written) rfl
  exact ⟨_, fd, ["_law_day", "_law_minute"], He.glo_ok X G (c.d.fact 14 (f := .glo "_law_written") rfl), F.kp, F.bindsN fun _ _ _ _ _ _ us hl => match us, hl with | [_, _], _ => rfl, fn_d (T := tb K) F sc__law_written fun cdv A outer s H E hr => b__law_written (txt X G c)  cdv A outer s H E hr⟩
theorem cl__law_due {base : Heap} (X : K.In h) (G : h.Ns mainGlobals mg) (c : Mp.SaysE fa fn exK K) : Cl (tb K) P w mg base "_law_due" 1 1 f__law_due := by
  obtain ⟨fd, F⟩ := c.d.def_ 15 (d := d__law_due) rfl
  exact ⟨_, fd, ["_law_text"], He.glo_ok X G (c.d.fact 15 (f := .glo "_law_due") rfl), F.kp, F.bindsN fun _ _ _ _ _ _ us hl => match us, hl with | [_], _ => rfl, fn_d (T := tb K) F sc__law_due fun cdv A outer s H E hr => b__law_due (txt X G c)  cdv A outer s H E hr⟩
theorem cl__law_told {base : Heap} (X : K.In h) (G : h.Ns mainGlobals mg) (c : Mp.SaysE fa fn exK K) : Cl (tb K) P w mg base "_law_told" 5 3 f__law_told := by
  obtain ⟨fd, F⟩ := c.d.def_ 16 (d := d__law_told) rfl
  exact ⟨_, fd, ["_law_which", "_law_thing", "_law_minute"], He.glo_ok X G (c.d.fact 16 (f := .glo "_law_told") rfl), F.kp, F.bindsN fun _ _ _ _ _ _ us hl => match us, hl with | [_, _, _], _ => rfl, fn_d (T := tb K) F sc__law_told fun cdv A outer s H E hr => b__law_told (txt X G c) (cl_moment_of X G c) (cl_day_and_minute X G c) (cl_moment_text X G c) (cl_moment_by X G c) (cl__law_class X G c) cdv A outer s H E hr⟩
theorem cl__law_changed {base : Heap} (X : K.In h) (G : h.Ns mainGlobals mg) (c : Mp.SaysE fa fn exK K) : Cl (tb K) P w mg base "_law_changed" 3 3 f__law_changed := by
  obtain ⟨fd, F⟩ := c.d.def_ 17 (d := d__law_changed) rfl
  exact ⟨_, fd, ["_law_script", "_law_tape", "_law_text"], He.glo_ok X G (c.d.fact 17 (f := .glo "_law_changed") rfl), F.kp, F.bindsN fun _ _ _ _ _ _ us hl => match us, hl with | [_, _, _], _ => rfl, fn_d (T := tb K) F sc__law_changed fun cdv A outer s H E hr => b__law_changed (txt X G c) (cl__law_draw X G c) cdv A outer s H E hr⟩
theorem cl__law_right {base : Heap} (X : K.In h) (G : h.Ns mainGlobals mg) (c : Mp.SaysE fa fn exK K) : Cl (tb K) P w mg base "_law_right" 6 2 f__law_right := by
  obtain ⟨fd, F⟩ := c.d.def_ 18 (d := d__law_right) rfl
  exact ⟨_, fd, ["_law_day", "_law_minute"], He.glo_ok X G (c.d.fact 18 (f := .glo "_law_right") rfl), F.kp, F.bindsN fun _ _ _ _ _ _ us hl => match us, hl with | [_, _], _ => rfl, fn_d (T := tb K) F sc__law_right fun cdv A outer s H E hr => b__law_right (txt X G c) (cl__law_told X G c) (cl__law_whole X G c) (cl__law_written X G c) cdv A outer s H E hr⟩
theorem facts (X : K.In h) (G : h.Ns mainGlobals mg) (hfa : mg ("law" : Str) = some (.ref f)) (c : Mp.SaysE fa fn exK K) :
    ∃ fd : FuncData, (∀ (s : Shared) (v : Value), BindsTo s fd ⟨[v], []⟩ [("_law_script", v)]) ∧ ∀ base : Heap, K.In base → base.Ns mainGlobals mg → FnOk P w K mg base (L2.CX P w) 7 f fd ["_law_script"] (spD (tb K) 1 f_law) := by
  obtain ⟨fd, F⟩ := c.d.def_ 19 (d := d_law) rfl
  have e := hfa.symm.trans (He.glo_ok X G (c.d.fact 19 (f := .glo "law") rfl))
  cases e
  have b := FunD.bindsA (ps := ["_law_script"]) F fun _ _ _ _ _ _ us hl => match us, hl with | [_], _ => rfl
  exact ⟨fd, fun s v => b s [v] rfl, fun base _ _ => fn_d (T := tb K) F sc_law fun cdv A outer s H E hr => b_law (txt X G c) (cl__law_draw X G c) (cl__law_right X G c) (cl__law_changed X G c) (cl__law_written X G c) (cl__law_due X G c) (cl__law_told X G c) (cl__law_whole X G c) cdv A outer s H E hr⟩
end
end Rb
/-! ### the end -/
open PySem PySem.W PySem.Calls PyProof.Rows in
theorem PySem.Challenge.cw_roadbook_k02_moments_holds : PySem.Challenge.rw_roadbook_k02_moments.Holds := by
  w_on; o_law
  refine HandSHeadRun.head_any (r := OpenLaw.row PySem.Challenge.rw_roadbook_k02_moments) (q := view (OpenLaw.row PySem.Challenge.rw_roadbook_k02_moments).prog [41]) (H := Rb.hk) (ob := Rb.ob) (M := 4000) (loose := Rb.loose) (d := HandSHeadRun.topDef (OpenLaw.row PySem.Challenge.rw_roadbook_k02_moments).prog 41) (kwd := []) Rb.ob_eq
    (by kernel_rfl) (fun s => by kernel_rfl) Rb.run (by kernel_rfl) (by kernel_rfl) (by kernel_rfl) (by rfl) (by first | assumption | decide +kernel) (by decide +kernel) ⟨rfl, rfl, rfl, rfl, rfl, by decide +kernel⟩ ?hw ?hc
  case hw => w_witness2
  case hc =>
    refine Mp.law_walks (l := PySem.Challenge.rw_roadbook_k02_moments) (k := 7) (x := "_law_script") rfl (by kernel_rfl) ⟨rfl, by decide, by decide⟩ ?F
    intro w mg fa h Y G hmg0
    obtain ⟨K, KX, c⟩ := Y
    have hmg : mg ("law" : PySem.Str) = some (.ref fa) := by
      have e : (HandSHeadRun.topDef (OpenLaw.row PySem.Challenge.rw_roadbook_k02_moments).prog 41).name = ("law" : PySem.Str) := by kernel_rfl
      rw [← e]; exact hmg0
    obtain ⟨fd, hb, hF⟩ := Rb.facts (P := (PySem.Challenge.rw_roadbook_k02_moments).prog) (w := w) KX G hmg c
    exact ⟨K, fd, _, KX, hb, fun H a ns hl hO hS => Mp.law_end (k := 0) hO hS (Rb.pure_law ns hl), hF⟩
