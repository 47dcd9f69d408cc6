import PyProof.Rows.All
import Wide.All
import OpenK.AllK
import Wide.FinOn
import HandS.ForMost
import HandS.TupAny
import HandS.IsInst
import HandS.Wide
import PySem.Challenge.RW_orplaces_k02_names
set_option Elab.async false
set_option linter.all false
set_option maxRecDepth 100000
set_option maxHeartbeats 4000000
namespace L3
open PySem PySem.Spec PyProof.Rows L2

/-- what a step needs of its data: shown by arithmetic, or by hand -/
structure Need (p : Prop) : Prop where
  out : p
/-- pure data: what a Python value is, the heap put away. mut i: the i-th object that changes (its content stands in the table) -/
inductive D where
  | non | bl (b : Bool) | int (i : Int) | str (s : Str) | ty (n : String) | adr (a : Addr)
  | tup (l : List D) | lst (l : List D) | rol (l : List D) | dct (l : List (Key × D)) | obj (C : Addr) (fs : List (Str × D)) | cel (i : Nat)

mutual
inductive Rep (K : PySem.W.Frag) (P : Hp) (al : List Addr) : D → V → Prop
  | non : Rep K P al .non .non
  | bl (b : Bool) : Rep K P al (.bl b) (.bl b)
  | int (i : Int) : Rep K P al (.int i) (.int i)
  | str (s : Str) : Rep K P al (.str s) (.str s)
  | ty (n : String) : Rep K P al (.ty n) (.ty n)
  | adr (a : Addr) : Rep K P al (.adr a) (.ref a)
  | tup {a : Addr} {xs : List V} {ds : List D} : SqT K P a xs → Reps K P al ds xs → Rep K P al (.tup ds) (.ref a)
  | lst {a : Addr} {xs : List V} {ds : List D} : P a = some (.lst xs) → Reps K P al ds xs → Rep K P al (.lst ds) (.ref a)
  | rol {a : Addr} {xs : List V} {ds : List D} : SqL K P a xs → Reps K P al ds xs → Rep K P al (.rol ds) (.ref a)
  | dct {a : Addr} {kvs : List (Key × V)} {ks : List (Key × D)} : P a = some (.dK kvs) → RepKs K P al ks kvs → Rep K P al (.dct ks) (.ref a)
  | obj {a C dx : Addr} {gs : List (Str × V)} {fs : List (Str × D)} : P a = some (.ins C dx gs) → RepFs K P al fs gs → Rep K P al (.obj C fs) (.ref a)
  | cel {i : Nat} {a : Addr} : al[i]? = some a → Rep K P al (.cel i) (.ref a)
inductive Reps (K : PySem.W.Frag) (P : Hp) (al : List Addr) : List D → List V → Prop
  | nil : Reps K P al [] []
  | cons {d : D} {v : V} {ds : List D} {vs : List V} : Rep K P al d v → Reps K P al ds vs → Reps K P al (d :: ds) (v :: vs)
inductive RepKs (K : PySem.W.Frag) (P : Hp) (al : List Addr) : List (Key × D) → List (Key × V) → Prop
  | nil : RepKs K P al [] []
  | cons {k : Key} {d : D} {v : V} {ds : List (Key × D)} {vs : List (Key × V)} : Rep K P al d v → RepKs K P al ds vs → RepKs K P al ((k, d) :: ds) ((k, v) :: vs)
inductive RepFs (K : PySem.W.Frag) (P : Hp) (al : List Addr) : List (Str × D) → List (Str × V) → Prop
  | nil : RepFs K P al [] []
  | cons {k : Str} {d : D} {v : V} {ds : List (Str × D)} {vs : List (Str × V)} : Rep K P al d v → RepFs K P al ds vs → RepFs K P al ((k, d) :: ds) ((k, v) :: vs)
end

theorem same_seqT {K : PySem.W.Frag} {H H' : Hp} {a : Addr} {xs : List V} (e : Same H H') (h : SqT K H a xs) : SqT K H' a xs := by
  rcases h with h | h
  · rcases h with h | ⟨o, h⟩
    · exact .inl (.inl (e _ _ h))
    · exact .inl (.inr ⟨o, e _ _ h⟩)
  · exact .inr h
theorem pre_get {al al' : List Addr} (h : al <+: al') {i : Nat} {a : Addr} (e : al[i]? = some a) : al'[i]? = some a := by
  obtain ⟨t, rfl⟩ := h
  rw [List.getElem?_append_left (List.getElem?_eq_some_iff.mp e).1]; exact e
section
variable {K : PySem.W.Frag} {P P' : Hp} {al al' : List Addr}
mutual
theorem Rep.mono (s : Same P P') (h : al <+: al') : ∀ {d : D} {v : V}, Rep K P al d v → Rep K P' al' d v
  | _, _, .non => .non
  | _, _, .bl b => .bl b
  | _, _, .int i => .int i
  | _, _, .str x => .str x
  | _, _, .ty n => .ty n
  | _, _, .adr a => .adr a
  | _, _, .tup q r => .tup (same_seqT s q) (Reps.mono s h r)
  | _, _, .lst q r => .lst (s _ _ q) (Reps.mono s h r)
  | _, _, .rol q r => .rol (s.seq q) (Reps.mono s h r)
  | _, _, .dct q r => .dct (s _ _ q) (RepKs.mono s h r)
  | _, _, .obj q r => .obj (s _ _ q) (RepFs.mono s h r)
  | _, _, .cel e => .cel (pre_get h e)
theorem Reps.mono (s : Same P P') (h : al <+: al') : ∀ {ds : List D} {vs : List V}, Reps K P al ds vs → Reps K P' al' ds vs
  | _, _, .nil => .nil
  | _, _, .cons r t => .cons (Rep.mono s h r) (Reps.mono s h t)
theorem RepKs.mono (s : Same P P') (h : al <+: al') : ∀ {ds : List (Key × D)} {vs : List (Key × V)}, RepKs K P al ds vs → RepKs K P' al' ds vs
  | _, _, .nil => .nil
  | _, _, .cons r t => .cons (Rep.mono s h r) (RepKs.mono s h t)
theorem RepFs.mono (s : Same P P') (h : al <+: al') : ∀ {ds : List (Str × D)} {vs : List (Str × V)}, RepFs K P al ds vs → RepFs K P' al' ds vs
  | _, _, .nil => .nil
  | _, _, .cons r t => .cons (Rep.mono s h r) (RepFs.mono s h t)
end
theorem Reps.length : ∀ {ds : List D} {vs : List V}, Reps K P al ds vs → ds.length = vs.length
  | _, _, .nil => rfl
  | _, _, .cons _ t => by simp [Reps.length t]
theorem Reps.append : ∀ {ds es : List D} {vs ws : List V}, Reps K P al ds vs → Reps K P al es ws → Reps K P al (ds ++ es) (vs ++ ws)
  | _, _, _, _, .nil, s => s
  | _, _, _, _, .cons r t, s => .cons r (Reps.append t s)
theorem Reps.get : ∀ {ds : List D} {vs : List V} {i : Nat} {d : D}, Reps K P al ds vs → ds[i]? = some d → ∃ v, vs[i]? = some v ∧ Rep K P al d v
  | _, _, _, _, .nil, e => by simp at e
  | _, _, 0, _, .cons r _, e => by simp at e; subst e; exact ⟨_, rfl, r⟩
  | _, _, i + 1, d, .cons _ t, e => by
    obtain ⟨v, h1, h2⟩ := Reps.get (i := i) (d := d) t (by simpa using e)
    exact ⟨v, by simpa using h1, h2⟩
theorem Reps.getV : ∀ {ds : List D} {vs : List V} {i : Nat} {v : V}, Reps K P al ds vs → vs[i]? = some v → ∃ d, ds[i]? = some d ∧ Rep K P al d v
  | _, _, _, _, .nil, e => by simp at e
  | _, _, 0, _, .cons r _, e => by simp at e; subst e; exact ⟨_, rfl, r⟩
  | _, _, i + 1, v, .cons _ t, e => by
    obtain ⟨d, h1, h2⟩ := Reps.getV (i := i) (v := v) t (by simpa using e)
    exact ⟨d, by simpa using h1, h2⟩
theorem Reps.set {d : D} {v : V} (r : Rep K P al d v) : ∀ {ds : List D} {vs : List V} (i : Nat), Reps K P al ds vs → Reps K P al (ds.set i d) (vs.set i v)
  | _, _, _, .nil => .nil
  | _, _, 0, .cons _ t => .cons r t
  | _, _, i + 1, .cons q t => .cons q (Reps.set r i t)
theorem Reps.take : ∀ {ds : List D} {vs : List V} (n : Nat), Reps K P al ds vs → Reps K P al (ds.take n) (vs.take n)
  | _, _, 0, _ => by simp; exact .nil
  | _, _, _ + 1, .nil => .nil
  | _, _, n + 1, .cons r t => .cons r (Reps.take n t)
theorem Reps.drop : ∀ {ds : List D} {vs : List V} (n : Nat), Reps K P al ds vs → Reps K P al (ds.drop n) (vs.drop n)
  | _, _, 0, r => r
  | _, _, _ + 1, .nil => .nil
  | _, _, n + 1, .cons r t => Reps.drop n t
theorem Reps.erase : ∀ {ds : List D} {vs : List V} (n : Nat), Reps K P al ds vs → Reps K P al (ds.eraseIdx n) (vs.eraseIdx n)
  | _, _, _, .nil => .nil
  | _, _, 0, .cons r t => t
  | _, _, n + 1, .cons r t => .cons r (Reps.erase n t)
end

/-! ### steps of the heap -/
/-- from one state to a later one: the published part grows, the table's places stay, what is tracked beside them stays -/
structure Ext (P : Hp) (al : List Addr) (H : Hp) (P' : Hp) (al' : List Addr) (H' : Hp) : Prop where
  pp : Same P P'
  pre : al <+: al'
  fr : ∀ b o, H b = some o → b ∉ al → H' b = some o
  new : ∀ b, b ∈ al' → b ∉ al → H b = none
  pn : ∀ b o, H b = some o → (∀ x, o ≠ .own x) → P b = none → b ∉ al → P' b = none
theorem Ext.refl {P : Hp} {al : List Addr} {H : Hp} : Ext P al H P al H :=
  ⟨Same.refl _, List.prefix_refl _, fun _ _ h _ => h, fun _ h n => absurd h n, fun _ _ _ _ h _ => h⟩
theorem Ext.trans {P P1 P2 : Hp} {al al1 al2 : List Addr} {H H1 H2 : Hp} (a : Ext P al H P1 al1 H1) (b : Ext P1 al1 H1 P2 al2 H2) : Ext P al H P2 al2 H2 := by
  have nin : ∀ c o, H c = some o → c ∉ al → c ∉ al1 := fun c o h n m => by
    have := a.new c m n
    rw [h] at this; cases this
  refine ⟨a.pp.trans b.pp, List.IsPrefix.trans a.pre b.pre, fun c o h n => b.fr c o (a.fr c o h n) (nin c o h n), fun c m n => ?_, fun c o h ho hp n => ?_⟩
  · by_cases m1 : c ∈ al1
    · exact a.new c m1 n
    · have h1 := b.new c m m1
      cases h : H c with
      | none => rfl
      | some o => rw [a.fr c o h n] at h1; cases h1
  · exact b.pn c o (a.fr c o h n) ho (a.pn c o h ho hp n) (nin c o h n)

/-- what stands in the table: alive if an object of it changes -/
def live : D → Bool
  | .lst _ => true
  | .dct _ => true
  | .obj _ _ => true
  | _ => false
/-- the i-th object that changes, at a -/
def Cell (K : PySem.W.Frag) (P : Hp) (al : List Addr) (m : D) (a : Addr) (H : Hp) : Prop :=
  match m with
  | .lst ds => P a = none ∧ ∃ xs, H a = some (.lst xs) ∧ Reps K P al ds xs
  | .dct ks => P a = none ∧ ∃ kvs, H a = some (.dK kvs) ∧ RepKs K P al ks kvs
  | .obj C fs => P a = none ∧ ∃ dx gs, H a = some (.ins C dx gs) ∧ RepFs K P al fs gs
  | _ => True
abbrev Bs := Hp × List Addr × Hp
abbrev Mt := List D
abbrev Ev := List (Option D)
structure RS0 (K : PySem.W.Frag) (B : Bs) (P : Hp) (al : List Addr) (M : Mt) (H : Hp) : Prop where
  base : Ext B.1 B.2.1 B.2.2 P al H
  same : Same P H
  len : al.length = M.length
  cell : ∀ (i : Nat) (a : Addr) (m : D), al[i]? = some a → M[i]? = some m → Cell K P al m a H
  inj : ∀ (i j : Nat) (a : Addr) (m n : D), al[i]? = some a → al[j]? = some a → M[i]? = some m → M[j]? = some n → live m = true → live n = true → i = j
  trk : ∀ a, a ∈ al → ∃ o, H a = some o
structure RS (K : PySem.W.Frag) (B : Bs) (P : Hp) (al : List Addr) (M : Mt) (env : Ev) (σ : L2.St) (H : Hp) : Prop extends RS0 K B P al M H where
  slen : env.length = σ.length
  slot : ∀ (j : Nat) (d : D), env[j]? = some (some d) → ∃ v, σ[j]? = some (some v) ∧ Rep K P al d v
section
variable {K : PySem.W.Frag} {B : Bs} {P P' : Hp} {al al' : List Addr} {M M' : Mt} {env : Ev} {σ : L2.St} {H H' : Hp} {a p : Addr} {d : D} {v : V}
theorem live_cell {m : D} (h : live m = true) (c : Cell K P al m a H) : P a = none ∧ ∃ o, H a = some o := by
  cases m <;> simp [live] at h
  · obtain ⟨h1, xs, h2, _⟩ := c; exact ⟨h1, _, h2⟩
  · obtain ⟨h1, xs, h2, _⟩ := c; exact ⟨h1, _, h2⟩
  · obtain ⟨h1, _, _, h2, _⟩ := c; exact ⟨h1, _, h2⟩
theorem Cell.mono {m : D} (c : Cell K P al m a H) (s : Same P P') (h : al <+: al') (hp : live m = true → P' a = none) (hh : ∀ o, live m = true → H a = some o → H' a = some o) : Cell K P' al' m a H' := by
  cases m <;> first | trivial | skip
  · obtain ⟨h1, xs, h2, h3⟩ := c; exact ⟨hp rfl, xs, hh _ rfl h2, h3.mono s h⟩
  · obtain ⟨h1, xs, h2, h3⟩ := c; exact ⟨hp rfl, xs, hh _ rfl h2, h3.mono s h⟩
  · obtain ⟨h1, dx, xs, h2, h3⟩ := c; exact ⟨hp rfl, dx, xs, hh _ rfl h2, h3.mono s h⟩
/-- slots behind a step -/
theorem RS.step (r : RS K B P al M env σ H) (e : Ext P al H P' al' H') (r' : RS0 K B P' al' M' H') : RS K B P' al' M' env σ H' :=
  ⟨r', r.slen, fun j d h => by obtain ⟨v, h1, h2⟩ := r.slot j d h; exact ⟨v, h1, h2.mono e.pp e.pre⟩⟩
theorem RS0.free (r : RS0 K B P al M H) (hp : H p = none) : P p = none := by
  cases h : P p with
  | none => rfl
  | some o => rw [r.same _ _ h] at hp; cases hp
/-- a new object, published at once -/
theorem RS0.alloc (r : RS0 K B P al M H) (hp : H p = none) (o : HO) : Ext P al H (upd P p o) al (upd H p o) ∧ RS0 K B (upd P p o) al M (upd H p o) := by
  have np := r.free hp
  have e : Ext P al H (upd P p o) al (upd H p o) := by
    refine ⟨fun b x h => by rw [upd_ne (ne_of_none h np)]; exact h, List.prefix_refl _, fun b x h _ => by rw [upd_ne (ne_of_none h hp)]; exact h, fun b m n => absurd m n, fun b x h _ hb _ => by rw [upd_ne (ne_of_none h hp)]; exact hb⟩
  refine ⟨e, r.base.trans e, fun b x h => ?_, r.len, fun i a m h1 h2 => ?_, r.inj, fun a ha => by obtain ⟨o', h⟩ := r.trk a ha; exact ⟨o', by rw [upd_ne (ne_of_none h hp)]; exact h⟩⟩
  · by_cases hb : b = p
    · subst hb; rw [upd_same] at h ⊢; exact h
    · rw [upd_ne hb] at h ⊢; exact r.same _ _ h
  · have c := r.cell i a m h1 h2
    have hne : live m = true → a ≠ p := fun hl => by
      obtain ⟨_, o', ho⟩ := live_cell hl c
      exact ne_of_none ho hp
    exact c.mono e.pp e.pre (fun hl => by rw [upd_ne (hne hl)]; exact (live_cell hl c).1) fun o' hl ho => by rw [upd_ne (hne hl)]; exact ho
/-- a new object that will change -/
theorem RS0.allocM (r : RS0 K B P al M H) (hp : H p = none) {o : HO} {m : D} (hc : ∀ P' al', Same P P' → al <+: al' → P' p = none → ∀ H', H' p = some o → Cell K P' al' m p H') :
    Ext P al H P (al ++ [p]) (upd H p o) ∧ RS0 K B P (al ++ [p]) (M ++ [m]) (upd H p o) := by
  have np := r.free hp
  have e : Ext P al H P (al ++ [p]) (upd H p o) := by
    refine ⟨Same.refl _, List.prefix_append _ _, fun b x h _ => by rw [upd_ne (ne_of_none h hp)]; exact h, fun b m n => ?_, fun b x h _ hb _ => hb⟩
    rcases List.mem_append.mp m with z | z
    · exact absurd z n
    · have : b = p := by simpa using z
      rw [this]; exact hp
  have old : ∀ (i : Nat) (a : Addr), (al ++ [p])[i]? = some a → (i < al.length ∧ al[i]? = some a) ∨ (i = al.length ∧ a = p) := fun i a h => by
    by_cases hi : i < al.length
    · rw [List.getElem?_append_left hi] at h; exact .inl ⟨hi, h⟩
    · rw [List.getElem?_append_right (by omega)] at h
      have : i - al.length = 0 := by
        cases hq : i - al.length with
        | zero => rfl
        | succ n => rw [hq] at h; simp at h
      rw [this] at h
      exact .inr ⟨by omega, by simpa using h.symm⟩
  have oldM : ∀ (i : Nat) (n : D), i < al.length → (M ++ [m])[i]? = some n → M[i]? = some n := fun i n hi h => by
    rw [List.getElem?_append_left (by have := r.len; omega)] at h; exact h
  refine ⟨e, r.base.trans e, fun b x h => by rw [upd_ne (ne_of_none h np)]; exact r.same _ _ h, by simp [r.len], fun i a n h1 h2 => ?_, fun i j a n n' h1 h2 h3 h4 l1 l2 => ?_, fun a ha => ?_⟩
  · rcases old i a h1 with ⟨hi, h1'⟩ | ⟨hi, rfl⟩
    · have c := r.cell i a n h1' (oldM i n hi h2)
      have hne : live n = true → a ≠ p := fun hl => by
        obtain ⟨_, o', ho⟩ := live_cell hl c
        exact ne_of_none ho hp
      exact c.mono e.pp e.pre (fun hl => (live_cell hl c).1) fun o' hl ho => by rw [upd_ne (hne hl)]; exact ho
    · rw [hi, List.getElem?_append_right (by have := r.len; omega), r.len, Nat.sub_self] at h2
      have : m = n := by simpa using h2
      subst this
      exact hc _ _ (Same.refl _) e.pre np _ upd_same
  · rcases old i a h1 with ⟨hi, h1'⟩ | ⟨hi, e1⟩
    · rcases old j a h2 with ⟨hj, h2'⟩ | ⟨hj, e2⟩
      · exact r.inj i j a n n' h1' h2' (oldM i n hi h3) (oldM j n' hj h4) l1 l2
      · exfalso
        obtain ⟨_, o', ho⟩ := live_cell l1 (r.cell i a n h1' (oldM i n hi h3))
        rw [e2, hp] at ho; cases ho
    · rcases old j a h2 with ⟨hj, h2'⟩ | ⟨hj, e2⟩
      · exfalso
        obtain ⟨_, o', ho⟩ := live_cell l2 (r.cell j a n' h2' (oldM j n' hj h4))
        rw [e1, hp] at ho; cases ho
      · omega
  · rcases List.mem_append.mp ha with z | z
    · obtain ⟨o', h⟩ := r.trk a z; exact ⟨o', by rw [upd_ne (ne_of_none h hp)]; exact h⟩
    · have : a = p := by simpa using z
      rw [this]; exact ⟨_, upd_same⟩
/-- the i-th object changes -/
theorem RS0.change (r : RS0 K B P al M H) {i : Nat} {m m' : D} {o' : HO} (ha : al[i]? = some a) (hm : M[i]? = some m) (hl : live m = true) (hc : ∀ H', H' a = some o' → Cell K P al m' a H') :
    Ext P al H P al (upd H a o') ∧ RS0 K B P al (M.set i m') (upd H a o') := by
  have c := r.cell i a m ha hm
  have np := (live_cell hl c).1
  have im : i < M.length := (List.getElem?_eq_some_iff.mp hm).1
  have ia : a ∈ al := List.mem_of_getElem? ha
  have e : Ext P al H P al (upd H a o') := by
    refine ⟨Same.refl _, List.prefix_refl _, fun b x h n => ?_, fun b m n => absurd m n, fun b x h _ hb _ => hb⟩
    have hne : b ≠ a := fun z => n (by rw [z]; exact ia)
    rw [upd_ne hne]; exact h
  have gm : ∀ (j : Nat) (n : D), (M.set i m')[j]? = some n → (j = i ∧ n = m') ∨ (j ≠ i ∧ M[j]? = some n) := fun j n h => by
    by_cases hj : j = i
    · subst hj; rw [List.getElem?_set_self im] at h; exact .inl ⟨rfl, (Option.some.inj h).symm⟩
    · rw [List.getElem?_set_ne (Ne.symm hj)] at h; exact .inr ⟨hj, h⟩
  refine ⟨e, r.base.trans e, fun b x h => ?_, by simp [r.len], fun j b n h1 h2 => ?_, fun j k b n n' h1 h2 h3 h4 l1 l2 => ?_, fun b hb => ?_⟩
  · rw [upd_ne (fun z => by rw [z, np] at h; cases h)]; exact r.same _ _ h
  · rcases gm j n h2 with ⟨rfl, rfl⟩ | ⟨hj, h2⟩
    · rw [ha] at h1; cases h1
      exact hc _ upd_same
    · have c' := r.cell j b n h1 h2
      refine c'.mono (Same.refl _) (List.prefix_refl _) (fun l => (live_cell l c').1) (fun o l ho => ?_)
      have hne : b ≠ a := fun z => hj (r.inj j i a n m (z ▸ h1) ha h2 hm l hl)
      rw [upd_ne hne]; exact ho
  · rcases gm j n h3 with ⟨e1, e2⟩ | ⟨hj, g3⟩
    · rcases gm k n' h4 with ⟨e3, e4⟩ | ⟨hk, g4⟩
      · omega
      · rw [e1, ha] at h1; cases h1
        rw [e1]
        exact (r.inj k i a n' m h2 ha g4 hm l2 hl).symm
    · rcases gm k n' h4 with ⟨e3, e4⟩ | ⟨hk, g4⟩
      · rw [e3, ha] at h2; cases h2
        rw [e3]
        exact r.inj j i a n m h1 ha g3 hm l1 hl
      · exact r.inj j k b n n' h1 h2 g3 g4 l1 l2
  · by_cases hz : b = a
    · rw [hz]; exact ⟨_, upd_same⟩
    · obtain ⟨o2, h⟩ := r.trk b hb; exact ⟨o2, by rw [upd_ne hz]; exact h⟩
/-- what is not tracked was not tracked at the base -/
theorem RS0.fresh (r : RS0 K B P al M H) (hp : H p = none) : B.2.2 p = none ∧ p ∉ al := by
  have na : p ∉ al := fun h => by obtain ⟨o, e⟩ := r.trk p h; rw [hp] at e; cases e
  refine ⟨?_, na⟩
  cases h : B.2.2 p with
  | none => rfl
  | some o =>
    have nb : p ∉ B.2.1 := fun z => na (r.base.pre.subset z)
    rw [r.base.fr p o h nb] at hp; cases hp
/-- an object of our own beside the state: made, changed, published -/
theorem Ext.priv (e : Ext P al H P' al' H') (hp : H p = none) (o : HO) : Ext P al H P' al' (upd H' p o) :=
  ⟨e.pp, e.pre, fun b x h n => by rw [upd_ne (ne_of_none h hp)]; exact e.fr b x h n, e.new, e.pn⟩
theorem Ext.pub (e : Ext P al H P' al' H') (hp : H p = none) (hq : P' p = none) (o : HO) : Ext P al H (upd P' p o) al' H' :=
  ⟨fun b x h => by rw [upd_ne (ne_of_none (e.pp b x h) hq)]; exact e.pp b x h, e.pre, e.fr, e.new, fun b x h h1 h2 h3 => by rw [upd_ne (ne_of_none h hp)]; exact e.pn b x h h1 h2 h3⟩
theorem RS0.priv (r : RS0 K B P al M H) (hq : P p = none) (na : p ∉ al) (hb : B.2.2 p = none) (o : HO) : RS0 K B P al M (upd H p o) := by
  refine ⟨r.base.priv hb o, fun b x h => by rw [upd_ne (ne_of_none h hq)]; exact r.same _ _ h, r.len, fun i a m h1 h2 => ?_, r.inj, fun a ha => ?_⟩
  · have ne : a ≠ p := fun z => na (z ▸ List.mem_of_getElem? h1)
    exact (r.cell i a m h1 h2).mono (Same.refl _) (List.prefix_refl _) (fun l => (live_cell l (r.cell i a m h1 h2)).1) fun o' _ h => by rw [upd_ne ne]; exact h
  · have ne : a ≠ p := fun z => na (z ▸ ha)
    obtain ⟨o2, h⟩ := r.trk a ha; exact ⟨o2, by rw [upd_ne ne]; exact h⟩
theorem RS0.pub (r : RS0 K B P al M H) (hq : P p = none) (na : p ∉ al) (hb : B.2.2 p = none) {o : HO} (ho : H p = some o) : RS0 K B (upd P p o) al M H := by
  have sm : Same P (upd P p o) := fun b x h => by rw [upd_ne (ne_of_none h hq)]; exact h
  refine ⟨r.base.pub hb hq o, fun b x h => ?_, r.len, fun i a m h1 h2 => ?_, r.inj, r.trk⟩
  · by_cases hz : b = p
    · rw [hz, upd_same] at h; cases h; rw [hz]; exact ho
    · rw [upd_ne hz] at h; exact r.same _ _ h
  · have ne : a ≠ p := fun z => na (z ▸ List.mem_of_getElem? h1)
    exact (r.cell i a m h1 h2).mono sm (List.prefix_refl _) (fun l => by rw [upd_ne ne]; exact (live_cell l (r.cell i a m h1 h2)).1) fun o' _ h => h
end

/-! ### judgements: pure readings -/
abbrev WE := Ev → Mt → (D → Mt → Prop) → Prop
abbrev WT := Ev → Mt → (Bool → Mt → Prop) → Prop
abbrev WA := Ev → Mt → (List D → Mt → Prop) → Prop
structure DEnds where
  nx : Ev → Mt → Prop
  rt : D → Mt → Prop
  bk : Ev → Mt → Prop
  ct : Ev → Mt → Prop
abbrev WS := DEnds → Ev → Mt → Prop
abbrev WG := D → Ev → Mt → (Ev → Mt → Prop) → Prop
section
variable (K : PySem.W.Frag) (B : Bs)
def Lift (P : Hp) (al : List Addr) (env : Ev) (σ : L2.St) (H : Hp) (R : D → Mt → Prop) (Q : VK) : Prop :=
  ∀ d M' v H' P' al', Ext P al H P' al' H' → RS K B P' al' M' env σ H' → Rep K P' al' d v → R d M' → Q v H'
def tD (w : WE) : TE := fun σ H Q => ∃ P al M env R, RS K B P al M env σ H ∧ w env M R ∧ Lift K B P al env σ H R Q
def tDT (w : WT) : TT := fun σ H Q => ∃ P al M env R, RS K B P al M env σ H ∧ w env M R ∧
  ∀ b M' H' P' al', Ext P al H P' al' H' → RS K B P' al' M' env σ H' → R b M' → Q b H'
def tDA (w : WA) : TA := fun σ H Q => ∃ P al M env R, RS K B P al M env σ H ∧ w env M R ∧
  ∀ ds M' vs H' P' al', Ext P al H P' al' H' → RS K B P' al' M' env σ H' → Reps K P' al' ds vs → R ds M' → Q vs H'
structure DLift (P : Hp) (al : List Addr) (H : Hp) (k : DEnds) (D : Ends) : Prop where
  nx : ∀ env' M' σ' H' P' al', Ext P al H P' al' H' → RS K B P' al' M' env' σ' H' → k.nx env' M' → D.nx σ' H'
  rt : ∀ d M' v H' P' al', Ext P al H P' al' H' → RS0 K B P' al' M' H' → Rep K P' al' d v → k.rt d M' → D.rt v H'
  bk : ∀ env' M' σ' H' P' al', Ext P al H P' al' H' → RS K B P' al' M' env' σ' H' → k.bk env' M' → D.bk σ' H'
  ct : ∀ env' M' σ' H' P' al', Ext P al H P' al' H' → RS K B P' al' M' env' σ' H' → k.ct env' M' → D.ct σ' H'
def tDS (w : WS) : TS := fun D σ H => ∃ P al M env, ∃ k : DEnds, RS K B P al M env σ H ∧ w k env M ∧ DLift K B P al H k D
def tDG (g : WG) : TG := fun v σ H Q => ∃ P al M env d R, RS K B P al M env σ H ∧ Rep K P al d v ∧ g d env M R ∧
  ∀ env' M' σ' H' P' al', Ext P al H P' al' H' → RS K B P' al' M' env' σ' H' → R env' M' → Q σ' H'
end
theorem DLift.after {K : PySem.W.Frag} {B : Bs} {P P' : Hp} {al al' : List Addr} {H H' : Hp} {k : DEnds} {D : Ends} (L : DLift K B P al H k D) (e : Ext P al H P' al' H') : DLift K B P' al' H' k D :=
  ⟨fun _ _ _ _ _ _ e2 => L.nx _ _ _ _ _ _ (e.trans e2), fun _ _ _ _ _ _ e2 => L.rt _ _ _ _ _ _ (e.trans e2), fun _ _ _ _ _ _ e2 => L.bk _ _ _ _ _ _ (e.trans e2), fun _ _ _ _ _ _ e2 => L.ct _ _ _ _ _ _ (e.trans e2)⟩
theorem _root_.L2.PE.imp {X : Cx} {e : Expr} {t u : TE} (h : PE X e t) (i : ∀ σ H Q, u σ H Q → t σ H Q) : PE X e u := ⟨fun pins s σ H Q I q => h.run pins s σ H Q I (i σ H Q q)⟩
theorem _root_.L2.PT.imp {X : Cx} {e : Expr} {t u : TT} (h : PT X e t) (i : ∀ σ H Q, u σ H Q → t σ H Q) : PT X e u := ⟨fun pins s σ H Q I q => h.run pins s σ H Q I (i σ H Q q)⟩
theorem _root_.L2.PW.imp {X : Cx} {e : Expr} {t u : TT} (h : PW X e t) (i : ∀ σ H Q, u σ H Q → t σ H Q) : PW X e u := ⟨fun wh pins s σ H Q I q => h.run wh pins s σ H Q I (i σ H Q q)⟩
theorem _root_.L2.PA.imp {X : Cx} {e : List Expr} {t u : TA} (h : PA X e t) (i : ∀ σ H Q, u σ H Q → t σ H Q) : PA X e u := ⟨fun p pins s σ H Q I q => h.run p pins s σ H Q I (i σ H Q q)⟩
theorem _root_.L2.PS.imp {X : Cx} {e : Stmt} {t u : TS} (h : PS X e t) (i : ∀ D σ H, u D σ H → t D σ H) : PS X e u := ⟨fun pins s σ H D I q => h.run pins s σ H D I (i D σ H q)⟩
theorem _root_.L2.PSs.imp {X : Cx} {e : List Stmt} {t u : TS} (h : PSs X e t) (i : ∀ D σ H, u D σ H → t D σ H) : PSs X e u := ⟨fun pins s σ H D I q => h.run pins s σ H D I (i D σ H q)⟩
theorem _root_.L2.PI.imp {X : Cx} {tg e : Expr} {t u : TI} (h : PI X tg e t) (i : ∀ σ H Q, u σ H Q → t σ H Q) : PI X tg e u := ⟨fun pins s σ H R I q => h.run pins s σ H R I (i σ H R q)⟩
theorem _root_.L2.PG.imp {X : Cx} {e : Expr} {t u : TG} (h : PG X e t) (i : ∀ v σ H Q, u v σ H Q → t v σ H Q) : PG X e u := ⟨fun pins s σ H v u' Q I r q => h.run pins s σ H v u' Q I r (i v σ H Q q)⟩
abbrev DE (B : Bs) (X : Cx) (e : Expr) (w : WE) : Prop := PE X e (tD X.K B w)
abbrev DT (B : Bs) (X : Cx) (e : Expr) (w : WT) : Prop := PT X e (tDT X.K B w)
abbrev DW (B : Bs) (X : Cx) (e : Expr) (w : WT) : Prop := PW X e (tDT X.K B w)
abbrev DA (B : Bs) (X : Cx) (es : List Expr) (w : WA) : Prop := PA X es (tDA X.K B w)
abbrev DS (B : Bs) (X : Cx) (st : Stmt) (w : WS) : Prop := PS X st (tDS X.K B w)
abbrev DSs (B : Bs) (X : Cx) (st : List Stmt) (w : WS) : Prop := PSs X st (tDS X.K B w)
abbrev DG (B : Bs) (X : Cx) (e : Expr) (g : WG) : Prop := PG X e (tDG X.K B g)
end L3

namespace L3
open PySem PySem.Spec PyProof.Rows L2
/-! ### looking through the table -/
def viewD (M : Mt) : D → D
  | .cel i => match M[i]? with
    | some (.lst l) => .lst l
    | some (.dct l) => .dct l
    | some (.obj C fs) => .obj C fs
    | _ => .cel i
  | d => d
section
variable {K : PySem.W.Frag} {B : Bs} {P P' : Hp} {al al' : List Addr} {M M' : Mt} {env : Ev} {σ : L2.St} {H H' : Hp} {a p : Addr} {d : D} {v : V}
theorem view_cases (M : Mt) (d : D) : viewD M d = d ∨ ∃ i m, d = .cel i ∧ M[i]? = some m ∧ live m = true ∧ viewD M d = m := by
  cases d <;> first | exact .inl rfl | skip
  rename_i i
  obtain ⟨o, h⟩ : ∃ o, M[i]? = o := ⟨_, rfl⟩
  cases o with
  | none => exact .inl (by simp only [viewD, h])
  | some m =>
    cases m <;> first
      | exact .inr ⟨i, _, rfl, h, rfl, by simp only [viewD, h]⟩
      | exact .inl (by simp only [viewD, h])
theorem view_same {m : D} (hl : live m = false) (e : viewD M d = m) : d = m := by
  rcases view_cases M d with h | ⟨i, n, _, _, l, h⟩
  · rw [← h, e]
  · rw [e] at h; subst h; rw [hl] at l; cases l
theorem cell_at (r : RS0 K B P al M H) {i : Nat} {m : D} (hm : M[i]? = some m) (q : Rep K P al (.cel i) v) : ∃ a, v = .ref a ∧ al[i]? = some a ∧ Cell K P al m a H := by
  cases q with
  | cel e => exact ⟨_, rfl, e, r.cell _ _ _ e hm⟩
theorem view_lst (r : RS0 K B P al M H) (q : Rep K P al d v) {ds : List D} (e : viewD M d = .lst ds) : ∃ a xs, v = .ref a ∧ H a = some (.lst xs) ∧ Reps K P al ds xs := by
  rcases view_cases M d with h | ⟨i, m, rfl, hm, l, h⟩
  · rw [e] at h; subst h
    cases q with
    | lst h1 h2 => exact ⟨_, _, rfl, r.same _ _ h1, h2⟩
  · rw [e] at h; subst h
    obtain ⟨a, rfl, _, _, xs, h1, h2⟩ := cell_at r hm q
    exact ⟨a, xs, rfl, h1, h2⟩
theorem view_dct (r : RS0 K B P al M H) (q : Rep K P al d v) {ds : List (Key × D)} (e : viewD M d = .dct ds) : ∃ a xs, v = .ref a ∧ H a = some (.dK xs) ∧ RepKs K P al ds xs := by
  rcases view_cases M d with h | ⟨i, m, rfl, hm, l, h⟩
  · rw [e] at h; subst h
    cases q with
    | dct h1 h2 => exact ⟨_, _, rfl, r.same _ _ h1, h2⟩
  · rw [e] at h; subst h
    obtain ⟨a, rfl, _, _, xs, h1, h2⟩ := cell_at r hm q
    exact ⟨a, xs, rfl, h1, h2⟩
theorem view_obj (r : RS0 K B P al M H) (q : Rep K P al d v) {C : Addr} {fs : List (Str × D)} (e : viewD M d = .obj C fs) : ∃ a dx xs, v = .ref a ∧ H a = some (.ins C dx xs) ∧ RepFs K P al fs xs := by
  rcases view_cases M d with h | ⟨i, m, rfl, hm, l, h⟩
  · rw [e] at h; subst h
    cases q with
    | obj h1 h2 => exact ⟨_, _, _, rfl, r.same _ _ h1, h2⟩
  · rw [e] at h; subst h
    obtain ⟨a, rfl, _, _, dx, xs, h1, h2⟩ := cell_at r hm q
    exact ⟨a, dx, xs, rfl, h1, h2⟩
theorem view_tup (r : RS0 K B P al M H) (q : Rep K P al d v) {ds : List D} (e : viewD M d = .tup ds) : ∃ a xs, v = .ref a ∧ SqT K H a xs ∧ Reps K P al ds xs := by
  rw [view_same rfl e] at q
  cases q with
  | tup h1 h2 => exact ⟨_, _, rfl, same_seqT r.same h1, h2⟩
theorem view_rol (r : RS0 K B P al M H) (q : Rep K P al d v) {ds : List D} (e : viewD M d = .rol ds) : ∃ a xs, v = .ref a ∧ SqL K H a xs ∧ Reps K P al ds xs := by
  rw [view_same rfl e] at q
  cases q with
  | rol h1 h2 => exact ⟨_, _, rfl, r.same.seq h1, h2⟩
theorem view_int (q : Rep K P al d v) {i : Int} (e : viewD M d = .int i) : v = .int i := by
  rw [view_same rfl e] at q; cases q; rfl
theorem view_bl (q : Rep K P al d v) {i : Bool} (e : viewD M d = .bl i) : v = .bl i := by
  rw [view_same rfl e] at q; cases q; rfl
theorem view_str (q : Rep K P al d v) {i : Str} (e : viewD M d = .str i) : v = .str i := by
  rw [view_same rfl e] at q; cases q; rfl
theorem view_non (q : Rep K P al d v) (e : viewD M d = .non) : v = .non := by
  rw [view_same rfl e] at q; cases q; rfl
theorem view_ty (q : Rep K P al d v) {n : String} (e : viewD M d = .ty n) : v = .ty n := by
  rw [view_same rfl e] at q; cases q; rfl
/-- what can be read in order -/
def seqD : D → Option (List D)
  | .lst l => some l
  | .rol l => some l
  | .tup l => some l
  | _ => none
theorem view_seq (r : RS0 K B P al M H) (q : Rep K P al d v) {ds : List D} (e : seqD (viewD M d) = some ds) : ∃ a xs, v = .ref a ∧ (SqL K H a xs ∨ SqT K H a xs) ∧ Reps K P al ds xs := by
  cases h : viewD M d <;> rw [h] at e <;> simp [seqD] at e
  · obtain ⟨a, xs, e1, e2, e3⟩ := view_tup r q h; subst e; exact ⟨a, xs, e1, .inr e2, e3⟩
  · obtain ⟨a, xs, e1, e2, e3⟩ := view_lst r q h; subst e; exact ⟨a, xs, e1, .inl (.inl (.inl e2)), e3⟩
  · obtain ⟨a, xs, e1, e2, e3⟩ := view_rol r q h; subst e; exact ⟨a, xs, e1, .inl e2, e3⟩

/-! ### lifting -/
theorem Lift.after {R : D → Mt → Prop} {Q : VK} (L : Lift K B P al env σ H R Q) (e : Ext P al H P' al' H') : Lift K B P' al' env σ H' R Q :=
  fun d M v H2 P2 al2 e2 rs r q => L d M v H2 P2 al2 (e.trans e2) rs r q
/-- the value is there already -/
theorem Lift.here {R : D → Mt → Prop} {Q : VK} (L : Lift K B P al env σ H R Q) (rs : RS K B P al M env σ H) (r : Rep K P al d v) (q : R d M) : Q v H := L _ _ _ _ _ _ Ext.refl rs r q
/-- a new object is the value -/
theorem Lift.alloc {R : D → Mt → Prop} {Q : VK} (L : Lift K B P al env σ H R Q) (rs : RS K B P al M env σ H) (hp : H p = none) {o : HO} (r : Rep K (upd P p o) al d (.ref p)) (q : R d M) : Q (.ref p) (upd H p o) := by
  obtain ⟨e, r0⟩ := rs.toRS0.alloc hp o
  exact L _ _ _ _ _ _ e (rs.step e r0) r q
theorem Ext.rs (e : Ext P al H P' al' H') (rs : RS K B P al M env σ H) (r0 : RS0 K B P' al' M' H') : RS K B P' al' M' env σ H' := rs.step e r0
theorem same_new (rs : RS0 K B P al M H) (hp : H p = none) {o : HO} : Same P (upd P p o) := (rs.alloc hp o).1.pp
end

/-! ### names and constants -/
def look (env : Ev) (i : Nat) : Option D := match env[i]? with
  | some (some d) => some d
  | _ => none
def wVar (i : Nat) : WE := fun env M R => match env[i]? with
  | some (some d) => R d M
  | _ => False
def wC (d : D) : WE := fun _ M R => R d M
section
variable {X : Cx} {B : Bs} {a b c e : Expr} {es : List Expr} {wa wb wc we : WE} {pos : Pos}
theorem d_var {i : Nat} {x : Str} {pos : Pos} (hN : X.N[i]? = some x := by rfl) (hv : Vis X.env.scope x := by first | exact Or.inl rfl | exact Or.inr (Or.inl rfl) | exact Or.inr (Or.inr rfl)) (hd : (x == ("__debug__" : Str)) = false := by decide) (hcd : (x == ("__classdict__" : Str)) = false := by decide) :
    DE B X (.Name x pos) (wVar i) := by
  refine (pe_var hN hv hd hcd).imp fun σ H Q => ?_
  rintro ⟨P, al, M, env, R, rs, hw, L⟩
  unfold wVar at hw
  split at hw
  · rename_i d hd
    obtain ⟨v, h1, h2⟩ := rs.slot _ _ hd
    exact ⟨v, h1, L.here rs h2 hw⟩
  · exact hw.elim
theorem d_C {d : D} {v : V} (h : PE X e (tC v)) (hd : ∀ P al, Rep X.K P al d v) : DE B X e (wC d) := by
  refine h.imp fun σ H Q => ?_
  rintro ⟨P, al, M, env, R, rs, hw, L⟩
  exact L.here rs (hd _ _) hw
theorem d_int {i : Int} {j pos} : DE B X (.Constant (.int i) j pos) (wC (.int i)) := d_C pe_int fun _ _ => .int i
theorem d_str {x : Str} {j pos} : DE B X (.Constant (.str x) j pos) (wC (.str x)) := d_C pe_str fun _ _ => .str x
theorem d_bl {x : Bool} {j pos} : DE B X (.Constant (.bool x) j pos) (wC (.bl x)) := d_C pe_bl fun _ _ => .bl x
theorem d_non {j pos} : DE B X (.Constant .none j pos) (wC .non) := d_C pe_non fun _ _ => .non

/-! ### two places -/
abbrev WO2 := D → D → Mt → (D → Mt → Prop) → Prop
def wOp (o : WO2) (wa wb : WE) : WE := fun env M R => wa env M fun x M1 => wb env M1 fun y M2 => o x y M2 R
def OpD (K : PySem.W.Frag) (B : Bs) (r : R2) (o : WO2) : Prop := ∀ P al M env σ H x y dx dy R Q, RS K B P al M env σ H → Rep K P al dx x → Rep K P al dy y → o dx dy M R → Lift K B P al env σ H R Q → r x y H Q
theorem op_imp {K : PySem.W.Frag} {r : R2} {o : WO2} (h : OpD K B r o) (σ : L2.St) (H : Hp) (Q : VK) : tD K B (wOp o wa wb) σ H Q → tOp r (tD K B wa) (tD K B wb) σ H Q := by
  rintro ⟨P, al, M, env, R, rs, hw, L⟩
  exact ⟨P, al, M, env, _, rs, hw, fun d1 M1 v1 H1 P1 al1 e1 rs1 r1 hw1 => ⟨P1, al1, M1, env, _, rs1, hw1, fun d2 M2 v2 H2 P2 al2 e2 rs2 r2 hw2 =>
    h _ _ _ _ _ _ _ _ _ _ _ _ rs2 (r1.mono e2.pp e2.pre) r2 hw2 (L.after (e1.trans e2))⟩⟩
theorem d_op {op : Operator} {r : R2} {o : WO2} (ho : OpR X (binaryOp op) r) (h : OpD X.K B r o) (ha : DE B X a wa) (hb : DE B X b wb) : DE B X (.BinOp a op b pos) (wOp o wa wb) :=
  (pe_op ho ha hb).imp (op_imp h)
theorem d_cmp {op : CmpOp} {r : R2} {o : WO2} (ho : OpR X (compareOp op) r) (h : OpD X.K B r o) (ha : DE B X a wa) (hb : DE B X b wb) (hm : behindInMarks op b = false) : DE B X (.Compare a [op] [b] pos) (wOp o wa wb) :=
  (pe_cmpR ho ha hb hm).imp (op_imp h)
/-- a value that must be a bool, as a test -/
def wTest (w : WE) : WT := fun env M R => w env M fun d M1 => match d with
  | .bl b => R b M1
  | _ => False
theorem test_imp {K : PySem.W.Frag} {t : TE} {w : WE} (h : ∀ σ H Q, tD K B w σ H Q → t σ H Q) (σ : L2.St) (H : Hp) (Q : Bool → Hp → Prop) : tDT K B (wTest w) σ H Q → tTest t σ H Q := by
  rintro ⟨P, al, M, env, R, rs, hw, L⟩
  refine h σ H _ ⟨P, al, M, env, _, rs, hw, fun d M1 v H1 P1 al1 e1 rs1 r1 q => ?_⟩
  split at q
  · rename_i b; cases r1; exact ⟨b, rfl, L _ _ _ _ _ e1 rs1 q⟩
  · exact q.elim
theorem d_cmpT {op : CmpOp} {r : R2} {o : WO2} (ho : OpR X (compareOp op) r) (h : OpD X.K B r o) (ha : DE B X a wa) (hb : DE B X b wb) (hm : behindInMarks op b = false) : DT B X (.Compare a [op] [b] pos) (wTest (wOp o wa wb)) :=
  (pt_cmpR ho ha hb hm).imp (test_imp (op_imp h))
/-- both ways of a truth value -/
def ifB (b : Bool) (A C : Prop) : Prop := (b = true → A) ∧ (b = false → C)
theorem ifB_ite {b : Bool} {A C : Prop} (h : ifB b A C) : if b = true then A else C := by
  cases b with
  | true => rw [if_pos rfl]; exact h.1 rfl
  | false => rw [if_neg Bool.false_ne_true]; exact h.2 rfl
def wAndT (t u : WT) : WT := fun env M R => t env M fun b M1 => ifB b (u env M1 R) (R false M1)
def wOrT (t u : WT) : WT := fun env M R => t env M fun b M1 => ifB b (R true M1) (u env M1 R)
def wNotT (t : WT) : WT := fun env M R => t env M fun b M1 => R (!b) M1
variable {ta tb : WT} {rest : List Expr}
theorem d_and1 (ha : DT B X a ta) : DW B X (.BoolOp .And [a] pos) ta := pw_and1 ha
theorem d_or1 (ha : DT B X a ta) : DW B X (.BoolOp .Or [a] pos) ta := pw_or1 ha
theorem d_and (ha : DT B X a ta) (hb : DW B X (.BoolOp .And (b :: rest) pos) tb) : DW B X (.BoolOp .And (a :: b :: rest) pos) (wAndT ta tb) := by
  refine (pw_and ha hb).imp fun σ H Q => ?_
  rintro ⟨P, al, M, env, R, rs, hw, L⟩
  refine ⟨P, al, M, env, _, rs, hw, fun b' M1 H1 P1 al1 e1 rs1 q => ?_⟩
  cases b' with
  | true => rw [if_pos rfl]; exact ⟨P1, al1, M1, env, _, rs1, q.1 rfl, fun c M2 H2 P2 al2 e2 rs2 q2 => L _ _ _ _ _ (e1.trans e2) rs2 q2⟩
  | false => rw [if_neg Bool.false_ne_true]; exact L _ _ _ _ _ e1 rs1 (q.2 rfl)
theorem d_or (ha : DT B X a ta) (hb : DW B X (.BoolOp .Or (b :: rest) pos) tb) : DW B X (.BoolOp .Or (a :: b :: rest) pos) (wOrT ta tb) := by
  refine (pw_or ha hb).imp fun σ H Q => ?_
  rintro ⟨P, al, M, env, R, rs, hw, L⟩
  refine ⟨P, al, M, env, _, rs, hw, fun b' M1 H1 P1 al1 e1 rs1 q => ?_⟩
  cases b' with
  | true => rw [if_pos rfl]; exact L _ _ _ _ _ e1 rs1 (q.1 rfl)
  | false => rw [if_neg Bool.false_ne_true]; exact ⟨P1, al1, M1, env, _, rs1, q.2 rfl, fun c M2 H2 P2 al2 e2 rs2 q2 => L _ _ _ _ _ (e1.trans e2) rs2 q2⟩
theorem d_not (ha : DT B X a ta) : DT B X (.UnaryOp .Not a pos) (wNotT ta) := by
  refine (pt_not ha).imp fun σ H Q => ?_
  rintro ⟨P, al, M, env, R, rs, hw, L⟩
  exact ⟨P, al, M, env, _, rs, hw, fun b' M1 H1 P1 al1 e1 rs1 q => L _ _ _ _ _ e1 rs1 q⟩
/-- as values -/
def wAndV (wa wb : WE) : WE := fun env M R => wa env M fun d M1 => match d with
  | .bl b => ifB b (wb env M1 R) (R (.bl false) M1)
  | _ => False
def wOrV (wa wb : WE) : WE := fun env M R => wa env M fun d M1 => match d with
  | .bl b => ifB b (R (.bl true) M1) (wb env M1 R)
  | _ => False
def wNotV (wa : WE) : WE := fun env M R => wa env M fun d M1 => match d with
  | .bl b => R (.bl (!b)) M1
  | _ => False
theorem d_one {op} (h : DE B X a wa) : DE B X (.BoolOp op [a] pos) wa := pe_one h
theorem d_andV (ha : DE B X a wa) (hb : DE B X (.BoolOp .And (b :: rest) pos) wb) : DE B X (.BoolOp .And (a :: b :: rest) pos) (wAndV wa wb) := by
  refine (pe_and ha hb).imp fun σ H Q => ?_
  rintro ⟨P, al, M, env, R, rs, hw, L⟩
  refine ⟨P, al, M, env, _, rs, hw, fun d M1 v H1 P1 al1 e1 rs1 r1 q => ?_⟩
  split at q
  · rename_i b'; cases r1; refine ⟨b', rfl, ?_⟩
    cases b' with
    | true => rw [if_pos rfl]; exact ⟨P1, al1, M1, env, _, rs1, q.1 rfl, L.after e1⟩
    | false => rw [if_neg Bool.false_ne_true]; exact L _ _ _ _ _ _ e1 rs1 (.bl false) (q.2 rfl)
  · exact q.elim
theorem d_orV (ha : DE B X a wa) (hb : DE B X (.BoolOp .Or (b :: rest) pos) wb) : DE B X (.BoolOp .Or (a :: b :: rest) pos) (wOrV wa wb) := by
  refine (pe_or ha hb).imp fun σ H Q => ?_
  rintro ⟨P, al, M, env, R, rs, hw, L⟩
  refine ⟨P, al, M, env, _, rs, hw, fun d M1 v H1 P1 al1 e1 rs1 r1 q => ?_⟩
  split at q
  · rename_i b'; cases r1; refine ⟨b', rfl, ?_⟩
    cases b' with
    | true => rw [if_pos rfl]; exact L _ _ _ _ _ _ e1 rs1 (.bl true) (q.1 rfl)
    | false => rw [if_neg Bool.false_ne_true]; exact ⟨P1, al1, M1, env, _, rs1, q.2 rfl, L.after e1⟩
  · exact q.elim
theorem d_notV (ha : DE B X a wa) : DE B X (.UnaryOp .Not a pos) (wNotV wa) := by
  refine (pe_not ha).imp fun σ H Q => ?_
  rintro ⟨P, al, M, env, R, rs, hw, L⟩
  refine ⟨P, al, M, env, _, rs, hw, fun d M1 v H1 P1 al1 e1 rs1 r1 q => ?_⟩
  split at q
  · rename_i b'; cases r1; exact ⟨b', rfl, L _ _ _ _ _ _ e1 rs1 (.bl _) q⟩
  · exact q.elim
def wIfE (t : WT) (wa wb : WE) : WE := fun env M R => t env M fun b M1 => ifB b (wa env M1 R) (wb env M1 R)
theorem d_ifE (hc : DT B X c ta) (ha : DE B X a wa) (hb : DE B X b wb) : DE B X (.IfExp c a b pos) (wIfE ta wa wb) := by
  refine (pe_ifExp hc ha hb).imp fun σ H Q => ?_
  rintro ⟨P, al, M, env, R, rs, hw, L⟩
  refine ⟨P, al, M, env, _, rs, hw, fun b' M1 H1 P1 al1 e1 rs1 q => ?_⟩
  cases b' with
  | true => rw [if_pos rfl]; exact ⟨P1, al1, M1, env, _, rs1, q.1 rfl, L.after e1⟩
  | false => rw [if_neg Bool.false_ne_true]; exact ⟨P1, al1, M1, env, _, rs1, q.2 rfl, L.after e1⟩
/-- an expression that gives a bool, as a test -/
theorem d_test (h : DE B X e we) (he : ∀ whole, isTrue e X.env whole = (do let v ← whole; standAt e.pos; holding [v] (truthy v)) := by intro _; rfl) : DT B X e (wTest we) := by
  refine (pt_val h he).imp fun σ H Q hh => ?_
  exact test_imp (fun _ _ _ z => z) σ H Q hh
/-- any value's truth -/
def truD (M : Mt) (d : D) (R : Bool → Prop) : Prop := match viewD M d with
  | .non => R false
  | .bl b => R b
  | .int i => R (i != 0)
  | .str s => Need (s.length ≤ sizeLine) ∧ R ((s.length : Int) != 0)
  | .lst l => R (!l.isEmpty)
  | .rol l => R (!l.isEmpty)
  | .tup l => R (!l.isEmpty)
  | .dct l => R (!l.isEmpty)
  | _ => False
def wTru (w : WE) : WT := fun env M R => w env M fun d M1 => truD M1 d fun b => R b M1
theorem empty_of {α β : Type} {xs : List α} {ys : List β} (h : xs.length = ys.length) : xs.isEmpty = ys.isEmpty := by
  cases xs <;> cases ys <;> simp_all
theorem RepKs.length {K : PySem.W.Frag} {P : Hp} {al : List Addr} : ∀ {ds : List (Key × D)} {vs : List (Key × V)}, RepKs K P al ds vs → ds.length = vs.length
  | _, _, .nil => rfl
  | _, _, .cons _ t => by simp [RepKs.length t]
theorem d_truth (h : DE B X e we) (he : ∀ whole, isTrue e X.env whole = (do let v ← whole; standAt e.pos; holding [v] (truthy v)) := by intro _; rfl) : DT B X e (wTru we) := by
  refine (pt_truth h he).imp fun σ H Q => ?_
  rintro ⟨P, al, M, env, R, rs, hw, L⟩
  refine ⟨P, al, M, env, _, rs, hw, fun d M1 v H1 P1 al1 e1 rs1 r1 q => ?_⟩
  unfold truD at q
  have L' := fun b => L b M1 H1 P1 al1 e1 rs1
  split at q
  · rename_i h; cases view_non r1 h; exact ⟨_, rfl, L' _ q⟩
  · rename_i h; cases view_bl r1 h; exact ⟨_, rfl, L' _ q⟩
  · rename_i h; cases view_int r1 h; exact ⟨_, rfl, L' _ q⟩
  · rename_i h; cases view_str r1 h; exact ⟨_, ⟨q.1.out, rfl⟩, L' _ q.2⟩
  · rename_i h; obtain ⟨a, xs, rfl, h1, h2⟩ := view_lst rs1.toRS0 r1 h
    rw [empty_of h2.length] at q; exact ⟨_, .inl ⟨xs, .inl (.inl h1), rfl⟩, L' _ q⟩
  · rename_i h; obtain ⟨a, xs, rfl, h1, h2⟩ := view_rol rs1.toRS0 r1 h
    rw [empty_of h2.length] at q; exact ⟨_, .inl ⟨xs, h1, rfl⟩, L' _ q⟩
  · rename_i h; obtain ⟨a, xs, rfl, h1, h2⟩ := view_tup rs1.toRS0 r1 h
    rw [empty_of h2.length] at q; exact ⟨_, .inr (.inl ⟨xs, h1, rfl⟩), L' _ q⟩
  · rename_i h; obtain ⟨a, xs, rfl, h1, h2⟩ := view_dct rs1.toRS0 r1 h
    rw [empty_of h2.length] at q; exact ⟨_, .inr (.inr ⟨xs, h1, rfl⟩), L' _ q⟩
  · exact q.elim
/-- a op1 b op2 c -/
def wChain (o o' : WO2) (wa wb wc : WE) : WE := fun env M R => wa env M fun x M1 => wb env M1 fun y M2 => o x y M2 fun z M3 => match z with
  | .bl k => ifB k (wc env M3 fun u M4 => o' y u M4 R) (R (.bl false) M3)
  | _ => False
theorem chain_imp {K : PySem.W.Frag} {r r' : R2} {o o' : WO2} (h : OpD K B r o) (h' : OpD K B r' o') (σ : L2.St) (H : Hp) (Q : VK) : tD K B (wChain o o' wa wb wc) σ H Q → tChain r r' (tD K B wa) (tD K B wb) (tD K B wc) σ H Q := by
  rintro ⟨P, al, M, env, R, rs, hw, L⟩
  refine ⟨P, al, M, env, _, rs, hw, fun d1 M1 v1 H1 P1 al1 e1 rs1 r1 hw1 => ⟨P1, al1, M1, env, _, rs1, hw1, fun d2 M2 v2 H2 P2 al2 e2 rs2 r2 hw2 => ?_⟩⟩
  refine h _ _ _ _ _ _ _ _ _ _ _ _ rs2 (r1.mono e2.pp e2.pre) r2 hw2 fun d3 M3 v3 H3 P3 al3 e3 rs3 r3 q => ?_
  split at q
  · rename_i k; cases r3; refine ⟨k, rfl, ?_⟩
    have L3 := L.after (e1.trans (e2.trans e3))
    cases k with
    | true =>
      rw [if_pos rfl]
      exact ⟨P3, al3, M3, env, _, rs3, q.1 rfl, fun d4 M4 v4 H4 P4 al4 e4 rs4 r4 hw4 => h' _ _ _ _ _ _ _ _ _ _ _ _ rs4 (r2.mono (e3.trans e4).pp (e3.trans e4).pre) r4 hw4 (L3.after e4)⟩
    | false => rw [if_neg Bool.false_ne_true]; exact L3.here rs3 (.bl false) (q.2 rfl)
  · exact q.elim
theorem d_chain {op op' : CmpOp} {r r' : R2} {o o' : WO2} (ho : OpR X (compareOp op) r) (h : OpD X.K B r o) (ho' : OpR X (compareOp op') r') (h' : OpD X.K B r' o') (ha : DE B X a wa) (hb : DE B X b wb) (hc : DE B X c wc) (hm : lastMarks [op, op'] [b, c] = false := by with_unfolding_all rfl) :
    DE B X (.Compare a [op, op'] [b, c] pos) (wChain o o' wa wb wc) := (pe_chain ho ho' ha hb hc hm).imp (chain_imp h h')
theorem d_chainT {op op' : CmpOp} {r r' : R2} {o o' : WO2} (ho : OpR X (compareOp op) r) (h : OpD X.K B r o) (ho' : OpR X (compareOp op') r') (h' : OpD X.K B r' o') (ha : DE B X a wa) (hb : DE B X b wb) (hc : DE B X c wc) (hm : lastMarks [op, op'] [b, c] = false := by with_unfolding_all rfl) :
    DT B X (.Compare a [op, op'] [b, c] pos) (wTest (wChain o o' wa wb wc)) := (pt_chain ho ho' ha hb hc hm).imp (test_imp (chain_imp h h'))

/-! ### arguments, displays -/
def wNil : WA := fun _ M R => R [] M
def wCons (w : WE) (r : WA) : WA := fun env M R => w env M fun d M1 => r env M1 fun ds M2 => R (d :: ds) M2
variable {was : WA}
theorem da_nil : DA B X [] wNil := by
  refine pa_nil.imp fun σ H Q => ?_
  rintro ⟨P, al, M, env, R, rs, hw, L⟩
  exact L _ _ _ _ _ _ Ext.refl rs .nil hw
theorem da_cons (ha : DE B X e we) (hr : DA B X es was) (hs : starEach (e :: es) X.env = (false, eval e X.env) :: starEach es X.env := by rfl) : DA B X (e :: es) (wCons we was) := by
  refine (pa_cons ha hr hs).imp fun σ H Q => ?_
  rintro ⟨P, al, M, env, R, rs, hw, L⟩
  exact ⟨P, al, M, env, _, rs, hw, fun d M1 v H1 P1 al1 e1 rs1 r1 hw1 => ⟨P1, al1, M1, env, _, rs1, hw1, fun ds M2 vs H2 P2 al2 e2 rs2 r2 q =>
    L _ _ _ _ _ _ (e1.trans e2) rs2 (.cons (r1.mono e2.pp e2.pre) r2) q⟩⟩
def wTup (w : WA) : WE := fun env M R => w env M fun ds M1 => Need (ds.length ≤ sizeLine) ∧ R (.tup ds) M1
def wLst (w : WA) : WE := fun env M R => w env M fun ds M1 => Need (ds.length ≤ sizeLine) ∧ R (.lst ds) M1
/-- a list that will be changed -/
def wLstM (w : WA) : WE := fun env M R => w env M fun ds M1 => Need (ds.length ≤ sizeLine) ∧ R (.cel M1.length) (M1 ++ [.lst ds])
theorem d_tup {k} (h : DA B X es was) : DE B X (.Tuple es k pos) (wTup was) := by
  refine (pe_tup h).imp fun σ H Q => ?_
  rintro ⟨P, al, M, env, R, rs, hw, L⟩
  refine ⟨P, al, M, env, _, rs, hw, fun ds M1 vs H1 P1 al1 e1 rs1 r1 q => ⟨by rw [← r1.length]; exact q.1.out, fun p hp => ?_⟩⟩
  exact (L.after e1).alloc rs1 hp (.tup (.inl (.inl upd_same)) (r1.mono (same_new rs1.toRS0 hp) (List.prefix_refl _))) q.2
theorem d_lst (h : DA B X es was) : DE B X (.List es pos) (wLst was) := by
  refine (pe_lst h).imp fun σ H Q => ?_
  rintro ⟨P, al, M, env, R, rs, hw, L⟩
  refine ⟨P, al, M, env, _, rs, hw, fun ds M1 vs H1 P1 al1 e1 rs1 r1 q => ⟨by rw [← r1.length]; exact q.1.out, fun p hp => ?_⟩⟩
  exact (L.after e1).alloc rs1 hp (.lst upd_same (r1.mono (same_new rs1.toRS0 hp) (List.prefix_refl _))) q.2
theorem Lift.allocM {K : PySem.W.Frag} {P : Hp} {al : List Addr} {M : Mt} {env : Ev} {σ : L2.St} {H : Hp} {p : Addr} {R : D → Mt → Prop} {Q : VK} (L : Lift K B P al env σ H R Q) (rs : RS K B P al M env σ H) (hp : H p = none) {ds : List D} {vs : List V} (r : Reps K P al ds vs)
    (q : R (.cel M.length) (M ++ [.lst ds])) : Q (.ref p) (upd H p (.lst vs)) := by
  obtain ⟨e, r0⟩ := rs.toRS0.allocM (m := .lst ds) (o := .lst vs) hp fun P' al' s h hn H' e => ⟨hn, vs, e, r.mono s h⟩
  refine L _ _ _ _ _ _ e (rs.step e r0) (.cel ?_) q
  rw [← rs.len, List.getElem?_append_right (Nat.le_refl _), Nat.sub_self]; rfl
theorem d_lstM (h : DA B X es was) : DE B X (.List es pos) (wLstM was) := by
  refine (pe_lst h).imp fun σ H Q => ?_
  rintro ⟨P, al, M, env, R, rs, hw, L⟩
  refine ⟨P, al, M, env, _, rs, hw, fun ds M1 vs H1 P1 al1 e1 rs1 r1 q => ⟨by rw [← r1.length]; exact q.1.out, fun p hp => ?_⟩⟩
  exact (L.after e1).allocM rs1 hp r1 q.2

/-! ### calls of builtins -/
abbrev WCl := List D → Mt → (D → Mt → Prop) → Prop
def wCB (c : WCl) (w : WA) : WE := fun env M R => w env M fun ds M1 => c ds M1 R
def CallD (K : PySem.W.Frag) (B : Bs) (r : List V → Hp → VK → Prop) (c : WCl) : Prop := ∀ P al M env σ H vs ds R Q, RS K B P al M env σ H → Reps K P al ds vs → c ds M R → Lift K B P al env σ H R Q → r vs H Q
theorem cb_imp {K : PySem.W.Frag} {r : List V → Hp → VK → Prop} {c : WCl} (h : CallD K B r c) (σ : L2.St) (H : Hp) (Q : VK) : tD K B (wCB c was) σ H Q → tCB r (tDA K B was) σ H Q := by
  rintro ⟨P, al, M, env, R, rs, hw, L⟩
  exact ⟨P, al, M, env, _, rs, hw, fun ds M1 vs H1 P1 al1 e1 rs1 r1 q => h _ _ _ _ _ _ _ _ _ _ rs1 r1 q (L.after e1)⟩
theorem d_callB {id : String} {x : Str} {p : Pos} {r : List V → Hp → VK → Prop} {c : WCl} (hc : CallR X (.builtin id) r) (h : CallD X.K B r c) (hg : Gl X x) (hm : X.mg x = none) (hv : bootBuiltins x = some (.builtin id)) (ha : DA B X (e :: es) was) (hn : x ≠ "__name__" := by decide) (hdb : (x == ("__debug__" : Str)) = false := by decide)
    (he : starEach (e :: es) X.env = (false, eval e X.env) :: starEach es X.env := by rfl) (hpl : (backTo pos (starEach es X.env)).any (·.1) = false := by rfl) : DE B X (.Call (.Name x p) (e :: es) [] pos) (wCB c was) :=
  (pe_callB hc hg hm hv ha hn hdb he hpl).imp (cb_imp h)
theorem d_callTy {T : String} {x : Str} {p : Pos} {r : List V → Hp → VK → Prop} {c : WCl} (hc : CallR X (.type T) r) (h : CallD X.K B r c) (hg : Gl X x) (hm : X.mg x = none) (hv : bootBuiltins x = some (.type T)) (ha : DA B X (e :: es) was) (hn : x ≠ "__name__" := by decide) (hdb : (x == ("__debug__" : Str)) = false := by decide)
    (he : starEach (e :: es) X.env = (false, eval e X.env) :: starEach es X.env := by rfl) (hpl : (backTo pos (starEach es X.env)).any (·.1) = false := by rfl) : DE B X (.Call (.Name x p) (e :: es) [] pos) (wCB c was) :=
  (pe_callTy hc hg hm hv ha hn hdb he hpl).imp (cb_imp h)
end
end L3

namespace L3
open PySem PySem.Spec PyProof.Rows L2
section
variable {X : Cx} {B : Bs} {K : PySem.W.Frag}
/-! ### arithmetic -/
def oAdd : WO2 := fun x y M R => match viewD M x, viewD M y with
  | .int i, .int j => R (.int (i + j)) M
  | .str s, .str t => Need (s.length + t.length ≤ sizeLine) ∧ R (.str (s ++ t)) M
  | .lst a, .lst b => Need (a.length + b.length ≤ sizeLine) ∧ R (.lst (a ++ b)) M
  | .tup a, .tup b => Need (a.length + b.length ≤ sizeLine) ∧ R (.tup (a ++ b)) M
  | _, _ => False
def rAddU (K : PySem.W.Frag) : R2 := fun x y H Q => (rI0 fun i j => .int (i + j)) x y H Q ∨ (fun x y H Q => ∃ i j, x = V.str i ∧ y = .str j ∧ i.length + j.length ≤ sizeLine ∧ Q (.str (i ++ j)) H) x y H Q ∨ rCat x y H Q ∨ rCatA K x y H Q
theorem opAdd : OpR X (binaryOp .Add) (rAddU X.K) := op_add.or (op_add_str.or (op_cat.or op_catA))
theorem oAdd_ok : OpD K B (rAddU K) oAdd := by
  intro P al M env σ H x y dx dy R Q rs r1 r2 h L
  unfold oAdd at h
  split at h
  · rename_i i j e1 e2
    cases view_int r1 e1; cases view_int r2 e2
    exact .inl ⟨i, j, rfl, rfl, L.here rs (.int _) h⟩
  · rename_i s t e1 e2
    cases view_str r1 e1; cases view_str r2 e2
    exact .inr (.inl ⟨s, t, rfl, rfl, h.1.out, L.here rs (.str _) h.2⟩)
  · rename_i s t e1 e2
    obtain ⟨a, xs, rfl, h1, q1⟩ := view_lst rs.toRS0 r1 e1
    obtain ⟨b, ys, rfl, h2, q2⟩ := view_lst rs.toRS0 r2 e2
    refine .inr (.inr (.inl ⟨a, b, xs, ys, rfl, rfl, h1, h2, by rw [← q1.length, ← q2.length]; exact h.1.out, fun p hp => ?_⟩))
    have sm := same_new rs.toRS0 hp (o := .lst (xs ++ ys))
    exact L.alloc rs hp (.lst upd_same ((q1.append q2).mono sm (List.prefix_refl _))) h.2
  · rename_i s t e1 e2
    obtain ⟨a, xs, rfl, h1, q1⟩ := view_tup rs.toRS0 r1 e1
    obtain ⟨b, ys, rfl, h2, q2⟩ := view_tup rs.toRS0 r2 e2
    have r1' := r1; have r2' := r2
    rw [view_same rfl e1] at r1'; rw [view_same rfl e2] at r2'
    refine .inr (.inr (.inr ⟨a, b, xs, ys, rfl, rfl, h1, h2, by rw [← q1.length, ← q2.length]; exact h.1.out, fun e => ?_, fun e1 e => ?_, fun e1 e2 p hp => ?_⟩))
    · subst e; cases q1; exact L.here rs r2' h.2
    · subst e; cases q2; refine L.here rs r1' ?_; have := h.2; rw [List.append_nil] at this; exact this
    · have sm := same_new rs.toRS0 hp (o := .tup (xs ++ ys))
      exact L.alloc rs hp (.tup (.inl (.inl upd_same)) ((q1.append q2).mono sm (List.prefix_refl _))) h.2
  · exact h.elim
/-- ints alone -/
def oI (C : Int → Int → Prop) (g : Int → Int → D) : WO2 := fun x y M R => match viewD M x, viewD M y with
  | .int i, .int j => Need (C i j) ∧ R (g i j) M
  | _, _ => False
def oI0 (g : Int → Int → D) : WO2 := fun x y M R => match viewD M x, viewD M y with
  | .int i, .int j => R (g i j) M
  | _, _ => False
theorem oI_ok {C : Int → Int → Prop} {g : Int → Int → D} {gV : Int → Int → V} (hg : ∀ P al i j, Rep K P al (g i j) (gV i j)) : OpD K B (rI C gV) (oI C g) := by
  intro P al M env σ H x y dx dy R Q rs r1 r2 h L
  unfold oI at h
  split at h
  · rename_i i j e1 e2
    cases view_int r1 e1; cases view_int r2 e2
    exact ⟨i, j, rfl, rfl, h.1.out, L.here rs (hg _ _ _ _) h.2⟩
  · exact h.elim
theorem oI0_ok {g : Int → Int → D} {gV : Int → Int → V} (hg : ∀ P al i j, Rep K P al (g i j) (gV i j)) : OpD K B (rI0 gV) (oI0 g) := by
  intro P al M env σ H x y dx dy R Q rs r1 r2 h L
  unfold oI0 at h
  split at h
  · rename_i i j e1 e2
    cases view_int r1 e1; cases view_int r2 e2
    exact ⟨i, j, rfl, rfl, L.here rs (hg _ _ _ _) h⟩
  · exact h.elim
abbrev oSub : WO2 := oI0 fun i j => .int (i - j)
theorem oSub_ok : OpD K B (rI0 fun i j => .int (i - j)) oSub := oI0_ok fun _ _ _ _ => .int _
abbrev oMod : WO2 := oI (fun _ j => 0 < j) fun i j => .int (i % j)
theorem oMod_ok : OpD K B (rI (fun _ j => 0 < j) fun i j => .int (i % j)) oMod := oI_ok fun _ _ _ _ => .int _
abbrev oFdiv : WO2 := oI CDivW fun i j => .int (i / j)
theorem oFdiv_ok : OpD K B (rI CDivW fun i j => .int (i / j)) oFdiv := oI_ok fun _ _ _ _ => .int _
abbrev oPow : WO2 := oI CPow fun i j => .int (i ^ j.toNat)
theorem oPow_ok : OpD K B (rI CPow fun i j => .int (i ^ j.toNat)) oPow := oI_ok fun _ _ _ _ => .int _
abbrev oShl : WO2 := oI CPow fun i j => .int (i * 2 ^ j.toNat)
theorem oShl_ok : OpD K B (rI CPow fun i j => .int (i * 2 ^ j.toNat)) oShl := oI_ok fun _ _ _ _ => .int _
abbrev oOr : WO2 := oI0 fun i j => .int (Builtin.bitOr i j)
theorem oOr_ok : OpD K B (rI0 fun i j => .int (Builtin.bitOr i j)) oOr := oI0_ok fun _ _ _ _ => .int _
abbrev oAnd : WO2 := oI0 fun i j => .int (Builtin.bitAnd i j)
theorem oAnd_ok : OpD K B (rI0 fun i j => .int (Builtin.bitAnd i j)) oAnd := oI0_ok fun _ _ _ _ => .int _
/-- n times a text -/
def mulS (x : Str) (n : Int) : Str := Txt.mul x n
def rMulS : R2 := fun x y H Q => ∃ s n, x = .str s ∧ y = .int n ∧ MulOk s n ∧ Q (.str (mulS s n)) H
theorem op_mulS : OpR X (binaryOp .Mult) rMulS := by
  intro pins s σ H x y v u Q I rx ry h
  obtain ⟨z, n, rfl, rfl, ok, q⟩ := h
  obtain ⟨t, rfl⟩ := rx
  obtain ⟨t', rfl⟩ := ry
  exact SB.mul ok fun t2 k => ⟨.str _, H, I.tok k, ⟨_, rfl⟩, q⟩
def CMulU (i j : Int) : Prop := CMul i j ∨ CMulW i j
theorem op_mulU : OpR X (binaryOp .Mult) (rI CMulU fun i j => .int (i * j)) := by
  intro pins s σ H x y v u Q I rx ry h
  obtain ⟨i, j, e1, e2, c, q⟩ := h
  rcases c with c | c
  · exact op_mul pins s σ H x y v u Q I rx ry ⟨i, j, e1, e2, c, q⟩
  · exact op_mulW pins s σ H x y v u Q I rx ry ⟨i, j, e1, e2, c, q⟩
def rMulU : R2 := fun x y H Q => rI CMulU (fun i j => .int (i * j)) x y H Q ∨ rMulS x y H Q ∨ rRep x y H Q
theorem opMul : OpR X (binaryOp .Mult) rMulU := op_mulU.or (op_mulS.or op_rep)
def repD (ds : List D) (n : Nat) : List D := (List.replicate n ds).flatten
def oMul : WO2 := fun x y M R => match viewD M x, viewD M y with
  | .int i, .int j => Need (CMulU i j) ∧ R (.int (i * j)) M
  | .str s, .int n => Need (MulOk s n) ∧ R (.str (mulS s n)) M
  | _, _ => False
theorem oMul_ok : OpD K B rMulU oMul := by
  intro P al M env σ H x y dx dy R Q rs r1 r2 h L
  unfold oMul at h
  split at h
  · rename_i i j e1 e2
    cases view_int r1 e1; cases view_int r2 e2
    exact .inl ⟨i, j, rfl, rfl, h.1.out, L.here rs (.int _) h.2⟩
  · rename_i s n e1 e2
    cases view_str r1 e1; cases view_int r2 e2
    exact .inr (.inl ⟨s, n, rfl, rfl, h.1.out, L.here rs (.str _) h.2⟩)
  · exact h.elim

/-! ### comparisons -/
abbrev oLt : WO2 := oI0 fun i j => .bl (decide (i < j))
theorem oLt_ok : OpD K B (rI0 fun i j => .bl (decide (i < j))) oLt := oI0_ok fun _ _ _ _ => .bl _
abbrev oLe : WO2 := oI0 fun i j => .bl (decide (i ≤ j))
theorem oLe_ok : OpD K B (rI0 fun i j => .bl (decide (i ≤ j))) oLe := oI0_ok fun _ _ _ _ => .bl _
abbrev oGt : WO2 := oI0 fun i j => .bl (decide (j < i))
theorem oGt_ok : OpD K B (rI0 fun i j => .bl (decide (j < i))) oGt := oI0_ok fun _ _ _ _ => .bl _
abbrev oGe : WO2 := oI0 fun i j => .bl (decide (j ≤ i))
theorem oGe_ok : OpD K B (rI0 fun i j => .bl (decide (j ≤ i))) oGe := oI0_ok fun _ _ _ _ => .bl _
mutual
/-- plain data of a datum -/
def toP : D → Option PyData
  | .non => some .none
  | .bl b => some (.bool b)
  | .int i => some (.int i)
  | .str s => some (.str s)
  | .tup l => (toPs l).map .tuple
  | .lst l => (toPs l).map .list
  | .rol l => (toPs l).map .list
  | _ => none
def toPs : List D → Option (List PyData)
  | [] => some []
  | d :: r => match toP d, toPs r with
    | some p, some ps => some (p :: ps)
    | _, _ => none
end
section
variable {P : Hp} {al : List Addr} {H : Hp}
mutual
theorem Rep.toDp (s : Same P H) : ∀ {d : D} {v : V} {p : PyData}, Rep K P al d v → toP d = some p → Dp K H v p
  | _, _, _, .non, e => by cases e; exact .non
  | _, _, _, .bl b, e => by cases e; exact .bl b
  | _, _, _, .int i, e => by cases e; exact .int i
  | _, _, _, .str x, e => by cases e; exact .str x
  | _, _, _, .ty n, e => by cases e
  | _, _, _, .adr a, e => by cases e
  | _, _, _, .tup (ds := ds) q r, e => by
    unfold toP at e
    cases h : toPs ds with
    | none => rw [h] at e; cases e
    | some ps => rw [h] at e; cases e; exact .tup (same_seqT s q) (Reps.toDp s r h)
  | _, _, _, .lst (ds := ds) q r, e => by
    unfold toP at e
    cases h : toPs ds with
    | none => rw [h] at e; cases e
    | some ps => rw [h] at e; cases e; exact .lst (.inl (.inl (s _ _ q))) (Reps.toDp s r h)
  | _, _, _, .rol (ds := ds) q r, e => by
    unfold toP at e
    cases h : toPs ds with
    | none => rw [h] at e; cases e
    | some ps => rw [h] at e; cases e; exact .lst (s.seq q) (Reps.toDp s r h)
  | _, _, _, .dct q r, e => by cases e
  | _, _, _, .obj q r, e => by cases e
  | _, _, _, .cel h, e => by cases e
theorem Reps.toDp (s : Same P H) : ∀ {ds : List D} {vs : List V} {ps : List PyData}, Reps K P al ds vs → toPs ds = some ps → DpAll K H vs ps
  | _, _, _, .nil, e => by cases e; exact .nil
  | _, _, _, .cons (d := d) (ds := ds) r t, e => by
    unfold toPs at e
    split at e
    · rename_i p ps h1 h2
      cases e
      exact .cons (Rep.toDp s r h1) (Reps.toDp s t h2)
    · cases e
end
end
/-- what an object in the table is as plain data -/
theorem view_dp {P : Hp} {al : List Addr} {M : Mt} {H : Hp} {d : D} {v : V} {p : PyData} (rs : RS0 K B P al M H) (r : Rep K P al d v) (e : toP (viewD M d) = some p) : Dp K H v p := by
  rcases view_cases M d with h | ⟨i, m, rfl, hm, l, h⟩
  · rw [h] at e; exact r.toDp rs.same e
  · rw [h] at e
    obtain ⟨a, rfl, _, c⟩ := cell_at rs hm r
    cases m with
    | lst ds =>
      obtain ⟨_, xs, h1, h2⟩ := c
      unfold toP at e
      cases h : toPs ds with
      | none => rw [h] at e; cases e
      | some ps => rw [h] at e; cases e; exact .lst (.inl (.inl h1)) (h2.toDp rs.same h)
    | dct ks => cases e
    | obj C fs => cases e
    | _ => simp [live] at l
/-- plain data, that == can ask -/
def plainOk (l : List D) : Prop := ∃ ps, toPs l = some ps ∧ SeqAt.shaped (.list ps) = true
theorem toPs_len : ∀ {l : List D} {ps : List PyData}, toPs l = some ps → l.isEmpty = ps.isEmpty
  | [], _, e => by cases e; rfl
  | d :: r, _, e => by
    unfold toPs at e
    split at e
    · cases e; rfl
    · cases e
theorem eqvAll_nil (ps : List PyData) : PyData.eqvAll ps [] = ps.isEmpty := by cases ps <;> simp [PyData.eqvAll]
theorem shaped_tup {ps : List PyData} (h : SeqAt.shaped (.list ps) = true) : SeqAt.shaped (.tuple ps) = true := by
  simpa [SeqAt.shaped, PyData.canLay0, PyData.depth] using h
/-- == of a scalar and a scalar; of data of any depth -/
def oEqB (f : Bool → Bool) : WO2 := fun x y M R => match viewD M x, viewD M y with
  | .int i, .int j => R (.bl (f (decide (i = j)))) M
  | .bl i, .bl j => R (.bl (f (decide (i = j)))) M
  | .str i, .str j => R (.bl (f (decide (i = j)))) M
  | .non, .non => R (.bl (f true)) M
  | .non, .int _ => R (.bl (f false)) M
  | .int _, .non => R (.bl (f false)) M
  | .non, .bl _ => R (.bl (f false)) M
  | .bl _, .non => R (.bl (f false)) M
  | .non, .str _ => R (.bl (f false)) M
  | .str _, .non => R (.bl (f false)) M
  | .int _, .str _ => R (.bl (f false)) M
  | .str _, .int _ => R (.bl (f false)) M
  | .bl _, .str _ => R (.bl (f false)) M
  | .str _, .bl _ => R (.bl (f false)) M
  | .lst l, .lst [] => Need (plainOk l) ∧ R (.bl (f l.isEmpty)) M
  | .tup l, .tup [] => Need (plainOk l) ∧ R (.bl (f l.isEmpty)) M
  | x', y' => match toP x', toP y' with
    | some p, some q => Need (SeqAt.shaped p = true) ∧ Need (SeqAt.shaped q = true) ∧ R (.bl (f (PyData.eqv p q))) M
    | _, _ => False
abbrev oEq : WO2 := oEqB fun b => b
abbrev oNe : WO2 := oEqB fun b => !b
def rEqU (K : PySem.W.Frag) : R2 := fun x y H Q => L2.rEq x y H Q ∨ rEqD K x y H Q
def rNeU (K : PySem.W.Frag) : R2 := fun x y H Q => L2.rNe x y H Q ∨ rNeD K x y H Q
theorem opEq (hu : X.A.units + 64 < cLine) : OpR X (compareOp .Eq) (rEqU X.K) := op_eq.or (op_eqD hu)
theorem opNe (hu : X.A.units + 64 < cLine) : OpR X (compareOp .NotEq) (rNeU X.K) := op_ne.or (op_neD hu)
theorem eqB_core {f : Bool → Bool} {P : Hp} {al : List Addr} {M : Mt} {env : Ev} {σ : L2.St} {H : Hp} {x y : V} {dx dy : D} {R : D → Mt → Prop} {Q : VK} (rs : RS K B P al M env σ H) (r1 : Rep K P al dx x) (r2 : Rep K P al dy y) (h : oEqB f dx dy M R) (L : Lift K B P al env σ H R Q) :
    (scal x y = true ∧ Q (.bl (f (decide (x = y)))) H) ∨ (∃ d e, Dp K H x d ∧ Dp K H y e ∧ SeqAt.shaped d = true ∧ SeqAt.shaped e = true ∧ Q (.bl (f (PyData.eqv d e))) H) := by
  have fin : ∀ b c, R (.bl (f b)) M → b = c → Q (.bl (f c)) H := fun b c q e => by subst e; exact L.here rs (.bl _) q
  unfold oEqB at h
  split at h
  · rename_i i j e1 e2; cases view_int r1 e1; cases view_int r2 e2; exact .inl ⟨rfl, fin _ _ h (by simp)⟩
  · rename_i i j e1 e2; cases view_bl r1 e1; cases view_bl r2 e2; exact .inl ⟨rfl, fin _ _ h (by simp)⟩
  · rename_i i j e1 e2; cases view_str r1 e1; cases view_str r2 e2; exact .inl ⟨rfl, fin _ _ h (by simp)⟩
  · rename_i e1 e2; cases view_non r1 e1; cases view_non r2 e2; exact .inl ⟨rfl, fin _ _ h (by simp)⟩
  · rename_i e1 e2; cases view_non r1 e1; cases view_int r2 e2; exact .inl ⟨rfl, fin _ _ h (by simp)⟩
  · rename_i e1 e2; cases view_int r1 e1; cases view_non r2 e2; exact .inl ⟨rfl, fin _ _ h (by simp)⟩
  · rename_i e1 e2; cases view_non r1 e1; cases view_bl r2 e2; exact .inl ⟨rfl, fin _ _ h (by simp)⟩
  · rename_i e1 e2; cases view_bl r1 e1; cases view_non r2 e2; exact .inl ⟨rfl, fin _ _ h (by simp)⟩
  · rename_i e1 e2; cases view_non r1 e1; cases view_str r2 e2; exact .inl ⟨rfl, fin _ _ h (by simp)⟩
  · rename_i e1 e2; cases view_str r1 e1; cases view_non r2 e2; exact .inl ⟨rfl, fin _ _ h (by simp)⟩
  · rename_i e1 e2; cases view_int r1 e1; cases view_str r2 e2; exact .inl ⟨rfl, fin _ _ h (by simp)⟩
  · rename_i e1 e2; cases view_str r1 e1; cases view_int r2 e2; exact .inl ⟨rfl, fin _ _ h (by simp)⟩
  · rename_i e1 e2; cases view_bl r1 e1; cases view_str r2 e2; exact .inl ⟨rfl, fin _ _ h (by simp)⟩
  · rename_i e1 e2; cases view_str r1 e1; cases view_bl r2 e2; exact .inl ⟨rfl, fin _ _ h (by simp)⟩
  · rename_i l e1 e2
    obtain ⟨⟨ps, h1, h2⟩, h3⟩ := h
    refine .inr ⟨.list ps, .list [], view_dp rs.toRS0 r1 (by rw [e1]; simp [toP, h1]), view_dp rs.toRS0 r2 (by rw [e2]; rfl), h2, rfl, ?_⟩
    exact fin _ _ h3 (by rw [toPs_len h1, ← eqvAll_nil]; simp [PyData.eqv])
  · rename_i l e1 e2
    obtain ⟨⟨ps, h1, h2⟩, h3⟩ := h
    refine .inr ⟨.tuple ps, .tuple [], view_dp rs.toRS0 r1 (by rw [e1]; simp [toP, h1]), view_dp rs.toRS0 r2 (by rw [e2]; rfl), shaped_tup h2, rfl, ?_⟩
    exact fin _ _ h3 (by rw [toPs_len h1, ← eqvAll_nil]; simp [PyData.eqv])
  · split at h
    · rename_i p q e1 e2
      exact .inr ⟨p, q, view_dp rs.toRS0 r1 e1, view_dp rs.toRS0 r2 e2, h.1.out, h.2.1.out, fin _ _ h.2.2 rfl⟩
    · exact h.elim
theorem oEq_ok : OpD K B (rEqU K) oEq := fun P al M env σ H x y dx dy R Q rs r1 r2 h L => eqB_core rs r1 r2 h L
theorem oNe_ok : OpD K B (rNeU K) oNe := fun P al M env σ H x y dx dy R Q rs r1 r2 h L => eqB_core rs r1 r2 h L
/-- a text in a text; a flat thing in a list or tuple of flat things -/
def strIn (x z : Str) : Bool := !(Builtin.Str.occurrences z x 0 z.length 1).isEmpty
theorem strIn_one (c : Nat) (z : Str) : strIn ⟨#[c]⟩ z = decide (c ∈ z.cps.toList) := PySem.StrLaws.found_one z c
mutual
def flatD : D → Option V
  | .non => some .non
  | .bl b => some (.bl b)
  | .int i => some (.int i)
  | .str s => some (.str s)
  | _ => none
end
def flatDs : List D → Option (List V)
  | [] => some []
  | d :: r => match flatD d, flatDs r with
    | some v, some vs => some (v :: vs)
    | _, _ => none
theorem flat_rep {P : Hp} {al : List Addr} {d : D} {v x : V} (r : Rep K P al d v) (e : flatD d = some x) : v = x ∧ flatV x = true := by
  cases r <;> simp [flatD] at e <;> subst e <;> exact ⟨rfl, rfl⟩
theorem flat_reps {P : Hp} {al : List Addr} : ∀ {ds : List D} {vs xs : List V}, Reps K P al ds vs → flatDs ds = some xs → vs = xs ∧ xs.all flatV = true
  | _, _, _, .nil, e => by cases e; exact ⟨rfl, rfl⟩
  | _, _, _, .cons r t, e => by
    unfold flatDs at e
    split at e
    · rename_i v vs h1 h2
      cases e
      obtain ⟨rfl, f1⟩ := flat_rep r h1
      obtain ⟨rfl, f2⟩ := flat_reps t h2
      exact ⟨rfl, by simp [f1, f2]⟩
    · cases e
def rInU (K : PySem.W.Frag) (neg : Bool) : R2 := fun x y H Q => (∃ i j, x = V.str i ∧ y = V.str j ∧ Q (.bl (if neg then !strIn i j else strIn i j)) H) ∨ rIn K neg x y H Q
theorem opIn : OpR X (compareOp .In) (rInU X.K false) := op_in_str.or op_in_seq
theorem opNotIn : OpR X (compareOp .NotIn) (rInU X.K true) := op_notin_str.or op_notIn_seq
def oIn (neg : Bool) : WO2 := fun x y M R => match viewD M y with
  | .str z => match viewD M x with
    | .str s => R (.bl (if neg then !strIn s z else strIn s z)) M
    | _ => False
  | y' => match seqD y' with
    | some l => match flatD x, flatDs l with
      | some v, some vs => R (.bl (if neg then !inV v vs else inV v vs)) M
      | _, _ => False
    | none => False
theorem oIn_ok {neg : Bool} : OpD K B (rInU K neg) (oIn neg) := by
  intro P al M env σ H x y dx dy R Q rs r1 r2 h L
  unfold oIn at h
  split at h
  · rename_i z e2
    split at h
    · rename_i s e1
      cases view_str r1 e1; cases view_str r2 e2
      exact .inl ⟨_, _, rfl, rfl, L.here rs (.bl _) h⟩
    · exact h.elim
  · split at h
    · rename_i l e2
      obtain ⟨a, xs, rfl, h1, q1⟩ := view_seq rs.toRS0 r2 e2
      split at h
      · rename_i v vs e3 e4
        obtain ⟨rfl, f1⟩ := flat_rep r1 e3
        obtain ⟨rfl, f2⟩ := flat_reps q1 e4
        exact .inr ⟨a, _, rfl, h1, f1, f2, L.here rs (.bl _) h⟩
      · exact h.elim
    · exact h.elim
/-- is None -/
def oIs (neg : Bool) : WO2 := fun x y M R => match y with
  | .non => match x with
    | .non => R (.bl (!neg)) M
    | _ => R (.bl neg) M
  | _ => False
theorem oIs_ok : OpD K B (fun x y H Q => y = .non ∧ Q (.bl (decide (x = .non))) H) (oIs false) := by
  intro P al M env σ H x y dx dy R Q rs r1 r2 h L
  unfold oIs at h
  split at h
  · cases r2
    refine ⟨rfl, ?_⟩
    split at h
    · cases r1; exact L.here rs (.bl _) h
    · have : decide (x = V.non) = false := by cases r1 <;> simp_all
      rw [this]; exact L.here rs (.bl _) h
  · exact h.elim
theorem oIsNot_ok : OpD K B (fun x y H Q => y = .non ∧ Q (.bl (!decide (x = .non))) H) (oIs true) := by
  intro P al M env σ H x y dx dy R Q rs r1 r2 h L
  unfold oIs at h
  split at h
  · cases r2
    refine ⟨rfl, ?_⟩
    split at h
    · cases r1; exact L.here rs (.bl _) h
    · have : decide (x = V.non) = false := by cases r1 <;> simp_all
      rw [this]; exact L.here rs (.bl _) h
  · exact h.elim
end

/-! ### subscripts, slices -/
section
variable {X : Cx} {B : Bs} {K : PySem.W.Frag} {a b e : Expr} {wa wb we : WE} {pos : Pos}
theorem Reps.atI {P : Hp} {al : List Addr} {ds : List D} {vs : List V} (r : Reps K P al ds vs) {i : Int} {d : D} (e : L2.atI ds i = some d) : ∃ v, L2.atI vs i = some v ∧ Rep K P al d v := by
  unfold L2.atI at e ⊢
  rw [← r.length]
  cases h : ixN ds.length i with
  | none => rw [h] at e; cases e
  | some j => rw [h] at e; exact r.get e
def oIx : WO2 := fun x y M R => match y with
  | .int i => match viewD M x with
    | .str s => Need (s.length ≤ sizeLine) ∧ (match L2.atI s.cps.toList i with
      | some c => R (.str ⟨#[c]⟩) M
      | none => False)
    | x' => match seqD x' with
      | some l => match L2.atI l i with
        | some d => R d M
        | none => False
      | none => False
  | _ => False
theorem oIx_ok : OpD K B (rIx K) oIx := by
  intro P al M env σ H x y dx dy R Q rs r1 r2 h L
  unfold oIx at h
  split at h
  · rename_i i
    cases r2
    split at h
    · rename_i s e1
      cases view_str r1 e1
      obtain ⟨h1, h2⟩ := h
      split at h2
      · rename_i c e; exact .inr (.inr ⟨s, i, c, rfl, rfl, h1.out, e, L.here rs (.str _) h2⟩)
      · exact h2.elim
    · split at h
      · rename_i l e1
        obtain ⟨a, xs, rfl, h1, q1⟩ := view_seq rs.toRS0 r1 e1
        split at h
        · rename_i d e
          obtain ⟨v, e2, q2⟩ := q1.atI e
          rcases h1 with h1 | h1
          · exact .inl ⟨a, xs, i, v, rfl, rfl, h1, e2, L.here rs q2 h⟩
          · exact .inr (.inl ⟨a, xs, i, v, rfl, rfl, h1, e2, L.here rs q2 h⟩)
        · exact h.elim
      · exact h.elim
  · exact h.elim
theorem d_ix (ha : DE B X a wa) (hb : DE B X b wb) (hs : PlainIx b := by intro _ _; rfl) : DE B X (.Subscript a b pos) (wOp oIx wa wb) := (pe_ix ix_seq ha hb hs).imp (op_imp oIx_ok)
abbrev WO := Ev → Mt → (Option Int → Mt → Prop) → Prop
def tDO (K : PySem.W.Frag) (B : Bs) (w : WO) : TO := fun σ H Q => ∃ P al M env R, RS K B P al M env σ H ∧ w env M R ∧ ∀ o M' H' P' al', Ext P al H P' al' H' → RS K B P' al' M' env σ H' → R o M' → Q o H'
theorem _root_.L2.PO.imp {X : Cx} {e : Option Expr} {t u : TO} (h : PO X e t) (i : ∀ σ H Q, u σ H Q → t σ H Q) : PO X e u := ⟨fun pins s σ H Q I q => h.run pins s σ H Q I (i σ H Q q)⟩
abbrev DO (B : Bs) (X : Cx) (e : Option Expr) (w : WO) : Prop := PO X e (tDO X.K B w)
def wNoP : WO := fun _ M R => R none M
def wP (w : WE) : WO := fun env M R => w env M fun d M1 => match d with
  | .int i => R (some i) M1
  | _ => False
theorem do_none : DO B X none wNoP := by
  refine po_none.imp fun σ H Q => ?_
  rintro ⟨P, al, M, env, R, rs, hw, L⟩
  exact L _ _ _ _ _ Ext.refl rs hw
theorem do_some (h : DE B X e we) : DO B X (some e) (wP we) := by
  refine (po_some h).imp fun σ H Q => ?_
  rintro ⟨P, al, M, env, R, rs, hw, L⟩
  refine ⟨P, al, M, env, _, rs, hw, fun d M1 v H1 P1 al1 e1 rs1 r1 q => ?_⟩
  split at q
  · cases r1; exact ⟨_, rfl, L _ _ _ _ _ e1 rs1 q⟩
  · exact q.elim
def cutD (xs : List D) (lo hi : Option Int) : List D := (xs.drop (HT.sIx xs.length 0 lo)).take (HT.sIx xs.length xs.length hi - HT.sIx xs.length 0 lo)
theorem Reps.cut {P : Hp} {al : List Addr} {ds : List D} {vs : List V} (r : Reps K P al ds vs) (lo hi : Option Int) : Reps K P al (cutD ds lo hi) (cutV vs lo hi) := by
  unfold cutD cutV
  rw [r.length]
  exact (r.drop _).take _
def wSl (we : WE) (wl wh : WO) : WE := fun env M R => we env M fun x M1 => wl env M1 fun lo M2 => wh env M2 fun hi M3 => match viewD M3 x with
  | .str s => Need (s.length ≤ sizeLine) ∧ R (.str (cutS s lo hi)) M3
  | .lst l => R (.lst (cutD l lo hi)) M3
  | .rol l => R (.lst (cutD l lo hi)) M3
  | .tup l => R (.tup (cutD l lo hi)) M3
  | _ => False
theorem cut_all {xs : List D} {lo hi : Option Int} (h : HT.sIx xs.length 0 lo = 0 ∧ HT.sIx xs.length xs.length hi = xs.length) : cutD xs lo hi = xs := by
  unfold cutD; rw [h.1, h.2]; simp
theorem d_sl {lo hi : Option Expr} {wl wh : WO} {p2 : Pos} (he : DE B X e we) (hl : DO B X lo wl) (hh : DO B X hi wh) : DE B X (.Subscript e (.Slice lo hi none p2) pos) (wSl we wl wh) := by
  refine (pe_slice (sl_str.or (sl_list.or sl_tupA)) he hl hh).imp fun σ H Q => ?_
  rintro ⟨P, al, M, env, R, rs, hw, L⟩
  refine ⟨P, al, M, env, _, rs, hw, fun d M1 v H1 P1 al1 e1 rs1 r1 hw1 => ⟨P1, al1, M1, env, _, rs1, hw1, fun lo M2 H2 P2 al2 e2 rs2 hw2 => ⟨P2, al2, M2, env, _, rs2, hw2, fun hi M3 H3 P3 al3 e3 rs3 q => ?_⟩⟩⟩
  have r3 := r1.mono (e2.trans e3).pp (e2.trans e3).pre
  have L3 := L.after (e1.trans (e2.trans e3))
  split at q
  · rename_i s e; cases view_str r3 e; exact .inl ⟨s, rfl, q.1.out, L3.here rs3 (.str _) q.2⟩
  · rename_i l e
    obtain ⟨a, xs, rfl, h1, q1⟩ := view_lst rs3.toRS0 r3 e
    refine .inr (.inl ⟨a, xs, rfl, .inl (.inl h1), fun p hp => ?_⟩)
    exact L3.alloc rs3 hp (.lst upd_same ((q1.cut lo hi).mono (same_new rs3.toRS0 hp) (List.prefix_refl _))) q
  · rename_i l e
    obtain ⟨a, xs, rfl, h1, q1⟩ := view_rol rs3.toRS0 r3 e
    refine .inr (.inl ⟨a, xs, rfl, h1, fun p hp => ?_⟩)
    exact L3.alloc rs3 hp (.lst upd_same ((q1.cut lo hi).mono (same_new rs3.toRS0 hp) (List.prefix_refl _))) q
  · rename_i l e
    obtain ⟨a, xs, rfl, h1, q1⟩ := view_tup rs3.toRS0 r3 e
    refine .inr (.inr ⟨a, xs, rfl, h1, fun hz => ?_, fun hz p hp => ?_⟩)
    · rw [← q1.length] at hz
      rw [cut_all hz] at q
      rw [view_same rfl e] at r3
      exact L3.here rs3 r3 q
    · exact L3.alloc rs3 hp (.tup (.inl (.inl upd_same)) ((q1.cut lo hi).mono (same_new rs3.toRS0 hp) (List.prefix_refl _))) q
  · exact q.elim
end
end L3

namespace L3
open PySem PySem.Spec PyProof.Rows L2
section
variable {X : Cx} {B : Bs} {K : PySem.W.Frag} {a b e : Expr} {es : List Expr} {wa wb we : WE} {was : WA} {pos : Pos} {st : Stmt} {rest : List Stmt} {w u : WS}
/-! ### statements -/
theorem RS.put {P : Hp} {al : List Addr} {M : Mt} {env : Ev} {σ : L2.St} {H : Hp} {d : D} {v : V} (rs : RS K B P al M env σ H) (i : Nat) (r : Rep K P al d v) : RS K B P al M (env.set i (some d)) (σ.set i (some v)) H := by
  refine ⟨rs.toRS0, by simp [rs.slen], fun j x h => ?_⟩
  by_cases hj : j = i
  · subst hj
    have hi : j < env.length := by
      have := (List.getElem?_eq_some_iff.mp h).1
      simpa using this
    rw [List.getElem?_set_self hi] at h
    cases h
    exact ⟨v, List.getElem?_set_self (by rw [← rs.slen]; exact hi), r⟩
  · rw [List.getElem?_set_ne (Ne.symm hj)] at h ⊢
    exact rs.slot j x h
def wSeq (w u : WS) : WS := fun k env M => w { k with nx := u k } env M
def wSkip : WS := fun k env M => k.nx env M
theorem ds_nil : DSs B X [] wSkip := by
  refine pss_nil.imp fun D σ H => ?_
  rintro ⟨P, al, M, env, k, rs, hw, L⟩
  exact L.nx _ _ _ _ _ _ Ext.refl rs hw
theorem ds_cons (h1 : DS B X st w) (h2 : DSs B X rest u) : DSs B X (st :: rest) (wSeq w u) := by
  refine (pss_cons h1 h2).imp fun D σ H => ?_
  rintro ⟨P, al, M, env, k, rs, hw, L⟩
  exact ⟨P, al, M, env, _, rs, hw, ⟨fun env' M' σ' H' P' al' e rs' q => ⟨P', al', M', env', k, rs', q, L.after e⟩, L.rt, L.bk, L.ct⟩⟩
theorem ds_one (h1 : DS B X st w) : DSs B X [st] w := pss_one h1
theorem d_pass : DS B X (.Pass pos) wSkip := by
  refine ps_pass.imp fun D σ H => ?_
  rintro ⟨P, al, M, env, k, rs, hw, L⟩
  exact L.nx _ _ _ _ _ _ Ext.refl rs hw
def wBrk : WS := fun k env M => k.bk env M
def wCnt : WS := fun k env M => k.ct env M
theorem d_brk : DS B X (.Break pos) wBrk := by
  refine ps_break.imp fun D σ H => ?_
  rintro ⟨P, al, M, env, k, rs, hw, L⟩
  exact L.bk _ _ _ _ _ _ Ext.refl rs hw
theorem d_cnt : DS B X (.Continue pos) wCnt := by
  refine ps_continue.imp fun D σ H => ?_
  rintro ⟨P, al, M, env, k, rs, hw, L⟩
  exact L.ct _ _ _ _ _ _ Ext.refl rs hw
theorem d_doc {x j pos pos'} : DS B X (.Expr (.Constant (.str x) j pos) pos') wSkip := by
  refine ps_doc.imp fun D σ H => ?_
  rintro ⟨P, al, M, env, k, rs, hw, L⟩
  exact L.nx _ _ _ _ _ _ Ext.refl rs hw
def wExp (we : WE) : WS := fun k env M => we env M fun _ M1 => k.nx env M1
theorem d_exp (he : DE B X e we) (hs : swapsWith e none pos.line X.env = pure false := by rfl) : DS B X (.Expr e pos) (wExp we) := by
  refine (ps_expr he hs).imp fun D σ H => ?_
  rintro ⟨P, al, M, env, k, rs, hw, L⟩
  exact ⟨P, al, M, env, _, rs, hw, fun d M1 v H1 P1 al1 e1 rs1 r1 q => L.nx _ _ _ _ _ _ e1 rs1 q⟩
def wRet (we : WE) : WS := fun k env M => we env M k.rt
theorem d_ret (he : DE B X e we) : DS B X (.Return (some e) pos) (wRet we) := by
  refine (ps_ret he).imp fun D σ H => ?_
  rintro ⟨P, al, M, env, k, rs, hw, L⟩
  exact ⟨P, al, M, env, _, rs, hw, fun d M1 v H1 P1 al1 e1 rs1 r1 q => L.rt _ _ _ _ _ _ e1 rs1.toRS0 r1 q⟩
def wRetN : WS := fun k env M => k.rt .non M
theorem d_retN : DS B X (.Return none pos) wRetN := by
  refine ps_retN.imp fun D σ H => ?_
  rintro ⟨P, al, M, env, k, rs, hw, L⟩
  exact L.rt _ _ _ _ _ _ Ext.refl rs.toRS0 .non hw
/-- what is returned is published: an object that was made and filled here -/
def frz (d : D) (M : Mt) (R : D → Mt → Prop) : Prop := match d with
  | .cel i => match M[i]? with
    | some (.lst l) => R (.lst l) (M.set i .non)
    | some (.dct l) => R (.dct l) (M.set i .non)
    | some (.obj C fs) => R (.obj C fs) (M.set i .non)
    | _ => False
  | _ => R d M
theorem RS0.freeze {P : Hp} {al : List Addr} {M : Mt} {H : Hp} {i : Nat} {m : D} {v : V} (rs : RS0 K B P al M H) (hm : M[i]? = some m) (hl : live m = true) (q : Rep K P al (.cel i) v) :
    ∃ P', Ext P al H P' al H ∧ RS0 K B P' al (M.set i .non) H ∧ Rep K P' al m v := by
  obtain ⟨a, rfl, ha, c⟩ := cell_at rs hm q
  obtain ⟨hp, o, ho⟩ := live_cell hl c
  have ia : a ∈ al := List.mem_of_getElem? ha
  have sm : Same P (upd P a o) := fun b x h => by rw [upd_ne (ne_of_none h hp)]; exact h
  have e : Ext P al H (upd P a o) al H := ⟨sm, List.prefix_refl _, fun _ _ h _ => h, fun b m n => absurd m n, fun b x h _ hb n => by
    rw [upd_ne (fun z => n (by rw [z]; exact ia))]; exact hb⟩
  have im : i < M.length := (List.getElem?_eq_some_iff.mp hm).1
  have gm : ∀ (j : Nat) (n : D), (M.set i .non)[j]? = some n → live n = true → j ≠ i ∧ M[j]? = some n := fun j n h ln => by
    by_cases hj : j = i
    · subst hj; rw [List.getElem?_set_self im] at h; cases h; cases ln
    · rw [List.getElem?_set_ne (Ne.symm hj)] at h; exact ⟨hj, h⟩
  refine ⟨upd P a o, e, ⟨rs.base.trans e, fun b x h => ?_, by simp [rs.len], fun j b n h1 h2 => ?_, fun j k b n n' h1 h2 h3 h4 l1 l2 => ?_, rs.trk⟩, ?_⟩
  · by_cases hb : b = a
    · subst hb; rw [upd_same] at h; cases h; exact ho
    · rw [upd_ne hb] at h; exact rs.same _ _ h
  · by_cases ln : live n = true
    · obtain ⟨hj, g⟩ := gm j n h2 ln
      have c' := rs.cell j b n h1 g
      have hne : b ≠ a := fun z => hj (rs.inj j i a n m (z ▸ h1) ha g hm ln hl)
      exact c'.mono sm (List.prefix_refl _) (fun _ => by rw [upd_ne hne]; exact (live_cell ln c').1) fun _ _ h => h
    · cases n <;> first | trivial | exact absurd rfl ln
  · obtain ⟨_, g3⟩ := gm j n h3 l1
    obtain ⟨_, g4⟩ := gm k n' h4 l2
    exact rs.inj j k b n n' h1 h2 g3 g4 l1 l2
  · cases m with
    | lst ds => obtain ⟨_, xs, h1, h2⟩ := c; rw [ho] at h1; cases h1; exact .lst upd_same (h2.mono sm (List.prefix_refl _))
    | dct ds => obtain ⟨_, xs, h1, h2⟩ := c; rw [ho] at h1; cases h1; exact .dct upd_same (h2.mono sm (List.prefix_refl _))
    | obj C ds => obtain ⟨_, dx, xs, h1, h2⟩ := c; rw [ho] at h1; cases h1; exact .obj upd_same (h2.mono sm (List.prefix_refl _))
    | _ => simp [live] at hl
theorem frz_ok {P : Hp} {al : List Addr} {M : Mt} {H : Hp} {d : D} {v : V} {R : D → Mt → Prop} (rs : RS0 K B P al M H) (r : Rep K P al d v) (q : frz d M R) : ∃ d' M' P', Ext P al H P' al H ∧ RS0 K B P' al M' H ∧ Rep K P' al d' v ∧ R d' M' := by
  unfold frz at q
  split at q
  · split at q
    · rename_i hm; obtain ⟨P', e, r0, r1⟩ := rs.freeze hm rfl r; exact ⟨_, _, P', e, r0, r1, q⟩
    · rename_i hm; obtain ⟨P', e, r0, r1⟩ := rs.freeze hm rfl r; exact ⟨_, _, P', e, r0, r1, q⟩
    · rename_i hm; obtain ⟨P', e, r0, r1⟩ := rs.freeze hm rfl r; exact ⟨_, _, P', e, r0, r1, q⟩
    · exact q.elim
  · exact ⟨d, M, P, Ext.refl, rs, r, q⟩
def wRetF (we : WE) : WS := fun k env M => we env M fun d M1 => frz d M1 k.rt
theorem d_retF (he : DE B X e we) : DS B X (.Return (some e) pos) (wRetF we) := by
  refine (ps_ret he).imp fun D σ H => ?_
  rintro ⟨P, al, M, env, k, rs, hw, L⟩
  refine ⟨P, al, M, env, _, rs, hw, fun d M1 v H1 P1 al1 e1 rs1 r1 q => ?_⟩
  obtain ⟨d', M', P', e2, r0, r2, q2⟩ := frz_ok rs1.toRS0 r1 q
  exact L.rt _ _ _ _ _ _ (e1.trans e2) r0 r2 q2
/-- a name's object is published ahead of a statement -/
def wFrz (i : Nat) (w : WS) : WS := fun k env M => match env[i]? with
  | some (some d) => frz d M fun d' M' => w k (env.map fun x => match x with
    | some y => match y, d with
      | .cel m, .cel n => if m = n then some d' else some y
      | _, _ => some y
    | none => none) M'
  | _ => False
def wIfS (t : WT) (w u : WS) : WS := fun k env M => t env M fun b M1 => ifB b (w k env M1) (u k env M1)
theorem d_if {c : Expr} {x y : List Stmt} {t : WT} (hc : DT B X c t) (ha : DSs B X x w) (hb : DSs B X y u) : DS B X (.If c x y pos) (wIfS t w u) := by
  refine (ps_if hc ha hb).imp fun D σ H => ?_
  rintro ⟨P, al, M, env, k, rs, hw, L⟩
  refine ⟨P, al, M, env, _, rs, hw, fun b' M1 H1 P1 al1 e1 rs1 q => ?_⟩
  cases b' with
  | true => rw [if_pos rfl]; exact ⟨P1, al1, M1, env, k, rs1, q.1 rfl, L.after e1⟩
  | false => rw [if_neg Bool.false_ne_true]; exact ⟨P1, al1, M1, env, k, rs1, q.2 rfl, L.after e1⟩
/-! ### targets -/
def gN (i : Nat) : WG := fun d env M R => R (env.set i (some d)) M
theorem dg_name {i : Nat} {x : Str} (hN : X.N.Nodup) (hi : X.N[i]? = some x := by rfl) (hx : Loc X.env.scope x := by first | exact .inl rfl | exact .inr rfl) (hf : X.fn x = true ∨ X.env.scope.names.lookup x = some .local := by first | exact .inl rfl | exact .inr rfl | assumption) : DG B X (.Name x pos) (gN i) := by
  refine (pg_name hN hi hx hf).imp fun v σ H Q => ?_
  rintro ⟨P, al, M, env, d, R, rs, r, hw, L⟩
  exact L _ _ _ _ _ _ Ext.refl (rs.put i r) hw
abbrev WGs := List D → Ev → Mt → (Ev → Mt → Prop) → Prop
def tDGs (K : PySem.W.Frag) (B : Bs) (g : WGs) : TGs := fun vs σ H Q => ∃ P al M env ds R, RS K B P al M env σ H ∧ Reps K P al ds vs ∧ g ds env M R ∧
  ∀ env' M' σ' H' P' al', Ext P al H P' al' H' → RS K B P' al' M' env' σ' H' → R env' M' → Q σ' H'
theorem _root_.L2.PGs.imp {X : Cx} {e : List Expr} {t u : TGs} (h : PGs X e t) (i : ∀ v σ H Q, u v σ H Q → t v σ H Q) : PGs X e u := ⟨fun pins s σ H v u' Q I r q => h.run pins s σ H v u' Q I r (i v σ H Q q)⟩
abbrev DGs (B : Bs) (X : Cx) (es : List Expr) (g : WGs) : Prop := PGs X es (tDGs X.K B g)
def gsNil : WGs := fun ds env M R => match ds with
  | [] => R env M
  | _ => False
def gsCons (g : WG) (r : WGs) : WGs := fun ds env M R => match ds with
  | d :: t => g d env M fun env1 M1 => r t env1 M1 R
  | [] => False
theorem dgs_nil : DGs B X [] gsNil := by
  refine pgs_nil.imp fun v σ H Q => ?_
  rintro ⟨P, al, M, env, ds, R, rs, r, hw, L⟩
  cases r with
  | nil => exact ⟨rfl, L _ _ _ _ _ _ Ext.refl rs hw⟩
  | cons _ _ => exact hw.elim
theorem dgs_cons {g : WG} {gs : WGs} (h1 : DG B X e g) (h2 : DGs B X es gs) (hs : (assignEach (e :: es) X.env).map (·.2) = assign e X.env :: (assignEach es X.env).map (·.2) := by rfl) : DGs B X (e :: es) (gsCons g gs) := by
  refine (pgs_cons h1 h2 hs).imp fun v σ H Q => ?_
  rintro ⟨P, al, M, env, ds, R, rs, r, hw, L⟩
  cases r with
  | nil => exact hw.elim
  | cons r1 r2 =>
    exact ⟨_, _, rfl, P, al, M, env, _, _, rs, r1, hw, fun env' M' σ' H' P' al' e rs' q => ⟨P', al', M', env', _, R, rs', r2.mono e.pp e.pre, q, fun env2 M2 σ2 H2 P2 al2 e2 rs2 q2 => L _ _ _ _ _ _ (e.trans e2) rs2 q2⟩⟩
/-- a, b, .. = a tuple -/
def gT (n : Nat) (g : WGs) : WG := fun d env M R => match d with
  | .tup ds => Need (ds.length = n) ∧ g ds env M R
  | _ => False
theorem dg_tup {k : Nat} {g : WGs} {n : Nat} (hc : X.calm = true) (h : DGs B X es g) (hn : (assignEach es X.env).length = n := by rfl) (hst : (assignEach es X.env).findIdx? (·.1) = none := by rfl) : DG B X (.Tuple es k pos) (gT n g) := by
  refine (pg_tup hc h hn hst).imp fun v σ H Q => ?_
  rintro ⟨P, al, M, env, d, R, rs, r, hw, L⟩
  unfold gT at hw
  split at hw
  · cases r with
    | tup h1 h2 => exact ⟨_, _, rfl, same_seqT rs.same h1, by rw [← h2.length]; exact hw.1.out, P, al, M, env, _, R, rs, h2, hw.2, L⟩
  · exact hw.elim
/-- xs[i] = .., xs an object that changes -/
def gIxL (wo wi : WE) : WG := fun d env M R => wo env M fun o M1 => wi env M1 fun i M2 => match o, i with
  | .cel n, .int k => match M2[n]? with
    | some (.lst l) => match ixN l.length k with
      | some j => R env (M2.set n (.lst (l.set j d)))
      | none => False
    | _ => False
  | _, _ => False
theorem Reps.setR {P : Hp} {al : List Addr} {ds : List D} {vs : List V} {d : D} {v : V} (r : Reps K P al ds vs) (q : Rep K P al d v) (i : Nat) : Reps K P al (ds.set i d) (vs.set i v) := Reps.set q i r
theorem dg_ixL {o i : Expr} {wo wi : WE} (ho : DE B X o wo) (hi : DE B X i wi) (ha : ∀ v, assign (.Subscript o i pos) X.env v = (do
      let ov ← holding [v] (eval o X.env)
      let iv ← holding [v, ov] (eval i X.env)
      standAt pos
      holding [v, ov, iv] (setItem ov iv v)
      release [v, ov, iv] []) := by intro _; rfl) : DG B X (.Subscript o i pos) (gIxL wo wi) := by
  refine (pg_sub ho hi set_list ha).imp fun v σ H Q => ?_
  rintro ⟨P, al, M, env, d, R, rs, r, hw, L⟩
  refine ⟨P, al, M, env, _, rs, hw, fun d1 M1 v1 H1 P1 al1 e1 rs1 r1 hw1 => ⟨P1, al1, M1, env, _, rs1, hw1, fun d2 M2 v2 H2 P2 al2 e2 rs2 r2 q => ?_⟩⟩
  split at q
  · rename_i n k
    split at q
    · rename_i l hm
      split at q
      · rename_i j hj
        cases r2
        obtain ⟨a, rfl, ha, _, xs, h1, h2⟩ := cell_at rs2.toRS0 hm (r1.mono e2.pp e2.pre)
        have e12 := e1.trans e2
        obtain ⟨e3, r3⟩ := rs2.toRS0.change (o' := .lst (xs.set j v)) (m' := .lst (l.set j d)) ha hm rfl fun H' hH => ⟨(live_cell rfl (rs2.cell n a _ ha hm)).1, _, hH, h2.setR (r.mono e12.pp e12.pre) j⟩
        exact ⟨a, xs, k, j, rfl, rfl, h1, by rw [← h2.length]; exact hj, L _ _ _ _ _ _ (e12.trans e3) (rs2.step e3 r3) q⟩
      · exact q.elim
    · exact q.elim
  · exact q.elim
/-- target = value -/
def wAsg (we : WE) (g : WG) : WS := fun k env M => we env M fun d M1 => g d env M1 k.nx
theorem d_asg {tg : Expr} {g : WG} (he : DE B X e we) (hg : DG B X tg g) (hs : swapsWithSole [tg] e pos.line X.env = pure false := by rfl) (hw : swappedStores [tg] e X.env = pure none := by rfl)
    (h1 : (assignEach [tg] X.env).map (·.2) = [assign tg X.env] := by rfl) : DS B X (.Assign [tg] e pos) (wAsg we g) := by
  refine (ps_asg he hg hs hw h1).imp fun D σ H => ?_
  rintro ⟨P, al, M, env, k, rs, hw, L⟩
  exact ⟨P, al, M, env, _, rs, hw, fun d M1 v H1 P1 al1 e1 rs1 r1 q => ⟨P1, al1, M1, env, d, _, rs1, r1, q, fun env' M' σ' H' P' al' e rs' q' => L.nx _ _ _ _ _ _ (e1.trans e) rs' q'⟩⟩
theorem d_set {i : Nat} {x : Str} {pos' : Pos} (hN : X.N.Nodup) (he : DE B X e we) (hi : X.N[i]? = some x := by rfl) (hx : Loc X.env.scope x := by first | exact .inl rfl | exact .inr rfl) (hs : swapsWith e (some (.Name x pos')) pos.line X.env = pure false := by rfl)
    (hf : X.fn x = true ∨ X.env.scope.names.lookup x = some .local := by first | exact .inl rfl | exact .inr rfl | assumption) : DS B X (.Assign [.Name x pos'] e pos) (wAsg we (gN i)) := by
  refine (ps_set hN hi hx he hs hf).imp fun D σ H => ?_
  rintro ⟨P, al, M, env, k, rs, hw, L⟩
  exact ⟨P, al, M, env, _, rs, hw, fun d M1 v H1 P1 al1 e1 rs1 r1 q => L.nx _ _ _ _ _ _ e1 (rs1.put i r1) q⟩
/-- a, b = x, y -/
def wPar (i j : Nat) (was : WA) : WS := fun k env M => was env M fun ds M1 => match ds with
  | [d1, d2] => k.nx ((env.set i (some d1)).set j (some d2)) M1
  | _ => False
theorem d_par {i j : Nat} {x y : Str} {px py pt : Pos} {kt k2 pt2} (hc : X.calm = true) (hN : X.N.Nodup) (hi : X.N[i]? = some x) (hj : X.N[j]? = some y) (hij : i ≠ j)
    (hx : X.env.scope.names.lookup x = some .local) (hy : X.env.scope.names.lookup y = some .local) (ha : DA B X [a, b] was)
    (hw : swappedStores [.Tuple [.Name x px, .Name y py] kt pt] (.Tuple [a, b] k2 pt2) X.env = pure (some [x, y]))
    (hs : swapsWithSole [.Tuple [.Name x px, .Name y py] kt pt] (.Tuple [a, b] k2 pt2) pos.line X.env = pure false := by rfl) :
    DS B X (.Assign [.Tuple [.Name x px, .Name y py] kt pt] (.Tuple [a, b] k2 pt2) pos) (wPar i j was) := by
  refine (ps_par hc hN hi hj hij hx hy ha hw hs).imp fun D σ H => ?_
  rintro ⟨P, al, M, env, k, rs, hw, L⟩
  refine ⟨P, al, M, env, _, rs, hw, fun ds M1 vs H1 P1 al1 e1 rs1 r1 q => ?_⟩
  split at q
  · cases r1 with
    | cons q1 t => cases t with
      | cons q2 t => cases t; exact ⟨_, _, rfl, L.nx _ _ _ _ _ _ e1 ((rs1.put i q1).put j q2) q⟩
  · exact q.elim
def wAug (i : Nat) (o : WO2) (we : WE) : WS := fun k env M => match env[i]? with
  | some (some x) => we env M fun y M1 => o x y M1 fun z M2 => k.nx (env.set i (some z)) M2
  | _ => False
theorem d_aug {i : Nat} {x : Str} {op : Operator} {o : WO2} {r : R2} {pos' : Pos} (hN : X.N.Nodup) (ho : OpR X (inplaceOp op) r) (h : OpD X.K B r o) (he : DE B X e we) (hi : X.N[i]? = some x := by rfl) (hx : Loc X.env.scope x := by first | exact .inl rfl | exact .inr rfl)
    (hf : X.fn x = true ∨ X.env.scope.names.lookup x = some .local := by first | exact .inl rfl | exact .inr rfl | assumption) : DS B X (.AugAssign (.Name x pos') op e pos) (wAug i o we) := by
  refine (ps_aug (ti := r) hN hi hx he (fun pins s σ H x y v u Q I r1 r2 q => ho pins s σ H x y v u Q I r1 r2 q) hf).imp fun D σ H => ?_
  rintro ⟨P, al, M, env, k, rs, hw, L⟩
  unfold wAug at hw
  split at hw
  · rename_i d hd
    obtain ⟨v, h1, h2⟩ := rs.slot _ _ hd
    refine ⟨v, h1, P, al, M, env, _, rs, hw, fun d1 M1 v1 H1 P1 al1 e1 rs1 r1 q => ?_⟩
    refine h _ _ _ _ _ _ _ _ _ _ _ _ rs1 (h2.mono e1.pp e1.pre) r1 q fun d2 M2 v2 H2 P2 al2 e2 rs2 r2 q2 => ?_
    exact L.nx _ _ _ _ _ _ (e1.trans e2) (rs2.put i r2) q2
  · exact hw.elim
end

/-! ### what is walked -/
section
variable {X : Cx} {B : Bs} {K : PySem.W.Frag} {e tg : Expr} {es : List Expr} {we : WE} {was : WA} {pos : Pos}
def Walk (K : PySem.W.Frag) (J : It) (ds : List D) (P : Hp) (al : List Addr) : Prop :=
  ∀ (B : Bs) (P2 : Hp) (al2 : List Addr) (M2 : Mt) (H2 : Hp), Same P P2 → al <+: al2 → RS0 K B P2 al2 M2 H2 →
    (∀ (i : Nat) (d : D), ds[i]? = some d → J.go i H2 ∧ ∀ x H3, J.yld i H2 x H3 → ∃ P3, Ext P2 al2 H2 P3 al2 H3 ∧ RS0 K B P3 al2 M2 H3 ∧ Rep K P3 al2 d x) ∧ J.stop ds.length H2
abbrev WI := Ev → Mt → (List D → Mt → Prop) → Prop
def tDI (K : PySem.W.Frag) (B : Bs) (w : WI) : TI := fun σ H R => ∃ P al M env RR, RS K B P al M env σ H ∧ w env M RR ∧
  ∀ ds M' H' P' al' J, Ext P al H P' al' H' → RS K B P' al' M' env σ H' → Walk K J ds P' al' → RR ds M' → R J H'
abbrev DI (B : Bs) (X : Cx) (tg e : Expr) (w : WI) : Prop := PI X tg e (tDI X.K B w)
def rIt (K : PySem.W.Frag) (x : V) (H : Hp) (R : It → Hp → Prop) : Prop := (∃ a, x = .ref a ∧ (∃ xs, SqL K H a xs) ∧ R (Itl K a) H) ∨ (∃ a, x = .ref a ∧ (∃ xs, SqT K H a xs) ∧ R (Itt K a) H) ∨ ∃ z, x = .str z ∧ R (Its z) H
theorem pi_any {tl : TE} (hl : PE X e tl) : PI X tg e (fun σ H R => tl σ H fun x H1 => rIt X.K x H1 R) := by
  refine ⟨fun pins s σ H R I h => ?_⟩
  refine thn (hl.run pins s σ H _ I h) fun v s1 ⟨x, H1, I1, r1, q1⟩ => ?_
  rcases q1 with ⟨a, e, ⟨xs, hq⟩, q⟩ | ⟨a, e, ⟨xs, hq⟩, q⟩ | ⟨z, e, q⟩
  · subst e
    cases r1
    obtain ⟨its, rv, p, hz⟩ := I1.list hq
    refine wpAny_pyIter_list p.isList ?_
    exact pi_one (tk := s1.toks) I1 _ (turn_list a _) ⟨_, Heap.get?_push_size _ rfl, rfl, rfl⟩ q
  · subst e
    cases r1
    obtain ⟨its, rv, p, hz⟩ := I1.tuple hq
    refine wpAny_pyIter_tuple (show s1.heap.IsTuple a its.toArray from p) ?_
    exact pi_one (tk := s1.toks) I1 _ (turn_tuple a _) ⟨_, Heap.get?_push_size _ rfl, rfl, rfl⟩ q
  · subst e
    obtain ⟨t, rfl⟩ := r1
    cases ha : z.cps.all (· < 128)
    · exact wpAny_pyIter_wide ha (pi_one (tk := s1.toks) I1 _ (turn_str _ z t "str_iterator" (.inr rfl)) ⟨_, Heap.get?_push_size _ rfl, rfl, rfl⟩ q)
    · exact wpAny_pyIter_ascii ha (pi_one (tk := s1.toks) I1 _ (turn_str _ z t "str_ascii_iterator" (.inl rfl)) ⟨_, Heap.get?_push_size _ rfl, rfl, rfl⟩ q)
theorem sqL_inj {P : Hp} {M : Mt} {al : List Addr} {H : Hp} {a : Addr} {xs ys : List V} (h : SqL K H a xs) (h' : SqL K H a ys) (hk : ∀ b o, K.lookup b = some o → H b = none) : xs = ys := by
  rcases h with h | ⟨o, its, n, h1, h2, h3, h4, h5, h6⟩
  · rcases h' with h' | ⟨o', its', n', g1, _⟩
    · rcases h with h | ⟨o, h⟩ <;> rcases h' with h' | ⟨o', h'⟩ <;> rw [h] at h' <;> cases h' <;> rfl
    · rcases h with h | ⟨o, h⟩ <;> rw [hk _ _ g1] at h <;> cases h
  · rcases h' with h' | ⟨o', its', n', g1, g2, g3, g4, g5, g6⟩
    · rcases h' with h' | ⟨o', h'⟩ <;> rw [hk _ _ h1] at h' <;> cases h'
    · rw [h1] at g1; cases g1
      rw [h4] at g4; cases g4
      exact h6.inj g6
/-- the signs of a text -/
def chars (s : Str) : List D := s.cps.toList.map fun c => .str ⟨#[c]⟩
theorem walk_str (s : Str) (P : Hp) (al : List Addr) : Walk K (Its s) (chars s) P al := by
  intro B P2 al2 M2 H2 _ _ r0
  have hl : (chars s).length = s.cps.size := by simp [chars]
  refine ⟨fun i d hd => ?_, by show s.cps.size ≤ (chars s).length; omega⟩
  have hi : i < (chars s).length := (List.getElem?_eq_some_iff.mp hd).1
  refine ⟨by show i < s.cps.size; omega, fun x H3 ⟨e, c, hc, ex⟩ => ⟨P2, ?_⟩⟩
  subst e; subst ex
  have : d = .str ⟨#[c]⟩ := by
    unfold chars at hd
    rw [List.getElem?_map, Array.getElem?_toList, hc] at hd
    exact (Option.some.inj hd).symm
  subst this
  exact ⟨Ext.refl, r0, .str _⟩
theorem walk_list {a : Addr} {xs : List V} {ds : List D} {P : Hp} {al : List Addr} (h : P a = some (.lst xs)) (r : Reps K P al ds xs) : Walk K (Itl K a) ds P al := by
  intro B P2 al2 M2 H2 s p r0
  have h2 : H2 a = some (.lst xs) := r0.same _ _ (s _ _ h)
  have r2 := r.mono s p
  refine ⟨fun i d hd => ?_, ⟨xs, SqL.of h2, by rw [r.length]; exact Nat.le_refl _⟩⟩
  obtain ⟨v, hv, rv⟩ := r2.get hd
  refine ⟨⟨xs, v, SqL.of h2, hv⟩, fun x H3 ⟨e, f⟩ => ⟨P2, ?_⟩⟩
  subst e
  have := f _ (SqL.of h2)
  rw [hv] at this; cases this
  exact ⟨Ext.refl, r0, rv⟩
theorem walk_rol {a : Addr} {xs : List V} {ds : List D} {P : Hp} {al : List Addr} (h : SqL K P a xs) (r : Reps K P al ds xs) : Walk K (Itl K a) ds P al := by
  intro B P2 al2 M2 H2 s p r0
  have h2 : SqL K H2 a xs := r0.same.seq (s.seq h)
  have r2 := r.mono s p
  refine ⟨fun i d hd => ?_, ⟨xs, h2, by rw [r.length]; exact Nat.le_refl _⟩⟩
  obtain ⟨v, hv, rv⟩ := r2.get hd
  refine ⟨⟨xs, v, h2, hv⟩, fun x H3 ⟨e, f⟩ => ⟨P2, ?_⟩⟩
  subst e
  have := f _ h2
  rw [hv] at this; cases this
  exact ⟨Ext.refl, r0, rv⟩
theorem walk_tup {a : Addr} {xs : List V} {ds : List D} {P : Hp} {al : List Addr} (h : SqT K P a xs) (r : Reps K P al ds xs) : Walk K (Itt K a) ds P al := by
  intro B P2 al2 M2 H2 s p r0
  have h2 : SqT K H2 a xs := same_seqT r0.same (same_seqT s h)
  have r2 := r.mono s p
  refine ⟨fun i d hd => ?_, ⟨xs, h2, by rw [r.length]; exact Nat.le_refl _⟩⟩
  obtain ⟨v, hv, rv⟩ := r2.get hd
  refine ⟨⟨xs, v, h2, hv⟩, fun x H3 ⟨e, f⟩ => ⟨P2, ?_⟩⟩
  subst e
  have := f _ h2
  rw [hv] at this; cases this
  exact ⟨Ext.refl, r0, rv⟩
def wIt (we : WE) : WI := fun env M RR => we env M fun d M1 => match d with
  | .str s => RR (chars s) M1
  | .lst l => RR l M1
  | .rol l => RR l M1
  | .tup l => RR l M1
  | _ => False
theorem di_any (h : DE B X e we) : DI B X tg e (wIt we) := by
  refine (pi_any h).imp fun σ H R => ?_
  rintro ⟨P, al, M, env, RR, rs, hw, L⟩
  refine ⟨P, al, M, env, _, rs, hw, fun d M1 v H1 P1 al1 e1 rs1 r1 q => ?_⟩
  split at q
  · cases r1; exact .inr (.inr ⟨_, rfl, L _ _ _ _ _ _ e1 rs1 (walk_str _ _ _) q⟩)
  · cases r1 with
    | lst h1 h2 => exact .inl ⟨_, rfl, ⟨_, SqL.of (rs1.same _ _ h1)⟩, L _ _ _ _ _ _ e1 rs1 (walk_list h1 h2) q⟩
  · cases r1 with
    | rol h1 h2 => exact .inl ⟨_, rfl, ⟨_, rs1.same.seq h1⟩, L _ _ _ _ _ _ e1 rs1 (walk_rol h1 h2) q⟩
  · cases r1 with
    | tup h1 h2 => exact .inr (.inl ⟨_, rfl, ⟨_, same_seqT rs1.same h1⟩, L _ _ _ _ _ _ e1 rs1 (walk_tup h1 h2) q⟩)
  · exact q.elim
@[irreducible] def rangeD (lo : Int) (n : Nat) : List D := (List.range n).map fun (k : Nat) => .int (lo + k)
theorem walk_range (lo : Int) (n : Nat) (P : Hp) (al : List Addr) : Walk K (Itr lo n) (rangeD lo n) P al := by
  intro B P2 al2 M2 H2 _ _ r0
  have hl : (rangeD lo n).length = n := by simp [rangeD]
  refine ⟨fun i d hd => ?_, by show n ≤ (rangeD lo n).length; omega⟩
  have hi : i < (rangeD lo n).length := (List.getElem?_eq_some_iff.mp hd).1
  refine ⟨by show i < n; omega, fun x H3 ⟨e, ex⟩ => ⟨P2, ?_⟩⟩
  subst e; subst ex
  have : d = .int (lo + i) := by
    unfold rangeD at hd
    rw [List.getElem?_map, List.getElem?_range (by omega)] at hd
    exact (Option.some.inj hd).symm
  subst this
  exact ⟨Ext.refl, r0, .int _⟩
def wRng1 (was : WA) : WI := fun env M RR => was env M fun ds M1 => match ds with
  | [.int j] => Need (-(2 ^ 62) ≤ j ∧ j < 2 ^ 62) ∧ RR (rangeD 0 j.toNat) M1
  | _ => False
def wRng2 (was : WA) : WI := fun env M RR => was env M fun ds M1 => match ds with
  | [.int i, .int j] => Need (-(2 ^ 62) ≤ i ∧ i < 2 ^ 62 ∧ -(2 ^ 62) ≤ j ∧ j < 2 ^ 62) ∧ RR (rangeD i (j - i).toNat) M1
  | _ => False
theorem di_range1 {p : Pos} (hg : Gl X "range") (hm : X.mg "range" = none) (ha : DA B X [e] was) (hs : starEach [e] X.env = [(false, eval e X.env)] := by rfl) : DI B X tg (.Call (.Name "range" p) [e] [] pos) (wRng1 was) := by
  refine (pi_range1 hg hm ha hs).imp fun σ H R => ?_
  rintro ⟨P, al, M, env, RR, rs, hw, L⟩
  refine ⟨P, al, M, env, _, rs, hw, fun ds M1 vs H1 P1 al1 e1 rs1 r1 q => ?_⟩
  split at q
  · rename_i j
    cases r1 with
    | cons q1 t =>
      cases t; cases q1
      exact ⟨j, rfl, q.1.out.1, q.1.out.2, L _ _ _ _ _ _ e1 rs1 (walk_range 0 _ _ _) q.2⟩
  · exact q.elim
theorem di_range2 {a b : Expr} {p : Pos} (hg : Gl X "range") (hm : X.mg "range" = none) (ha : DA B X [a, b] was) (hs : starEach [a, b] X.env = [(false, eval a X.env), (false, eval b X.env)] := by rfl) (hs2 : starEach [b] X.env = [(false, eval b X.env)] := by rfl) : DI B X tg (.Call (.Name "range" p) [a, b] [] pos) (wRng2 was) := by
  refine (pi_range2 hg hm ha hs hs2).imp fun σ H R => ?_
  rintro ⟨P, al, M, env, RR, rs, hw, L⟩
  refine ⟨P, al, M, env, _, rs, hw, fun ds M1 vs H1 P1 al1 e1 rs1 r1 q => ?_⟩
  split at q
  · rename_i i j
    cases r1 with
    | cons q1 t =>
      cases t with
      | cons q2 t =>
        cases t; cases q1; cases q2
        exact ⟨i, j, rfl, q.1.out, L _ _ _ _ _ _ e1 rs1 (walk_range i _ _ _) q.2⟩
  · exact q.elim

/-! ### for -/
/-- the turns over the items; N: what a turn is to reach -/
def forL (g : WG) (b : WS) (k : DEnds) : List D → Ev → Mt → Prop
  | [], env, M => k.nx env M
  | d :: r, env, M => ∃ N : Ev → Mt → Prop, (∀ env' M', N env' M' → forL g b k r env' M') ∧ g d env M fun env1 M1 => b { nx := N, ct := N, bk := k.nx, rt := k.rt } env1 M1
def wFor (wi : WI) (g : WG) (b : WS) : WS := fun k env M => wi env M fun ds M1 => forL g b k ds env M1
theorem d_for {body : List Stmt} {wi : WI} {g : WG} {wb : WS} (hp : PassesOwn (model X.prog X.w) X.A X.env X.xe) (hc : X.calm = true) (hi : DI B X tg e wi) (hg : DG B X tg g) (hb : DSs B X body wb) (hs : ∀ x, foldedSetIterable e X.env x = pure x := by intro _; rfl) :
    DS B X (.For tg e body [] pos) (wFor wi g wb) := by
  refine (ps_for hp hc hi hg hb hs).imp fun D σ H => ?_
  rintro ⟨P, al, M, env, k, rs, hw, L⟩
  refine ⟨P, al, M, env, _, rs, hw, fun ds M1 H1 P1 al1 J e1 rs1 wk q => ?_⟩
  refine ⟨fun i m σ2 H2 => m = ds.length - i ∧ i ≤ ds.length ∧ ∃ P2 al2 M2 env2, Ext P1 al1 H1 P2 al2 H2 ∧ RS X.K B P2 al2 M2 env2 σ2 H2 ∧ forL g wb k (ds.drop i) env2 M2, ⟨ds.length, by simp, Nat.zero_le _, P1, al1, M1, env, Ext.refl, rs1, q⟩, ?_⟩
  rintro i m σ2 H2 ⟨rfl, hi, P2, al2, M2, env2, e2, rs2, q2⟩
  obtain ⟨wk1, wk2⟩ := wk B P2 al2 M2 H2 e2.pp e2.pre rs2.toRS0
  by_cases hlt : i < ds.length
  · right
    have hd : ds[i]? = some ds[i] := List.getElem?_eq_getElem hlt
    obtain ⟨go, yl⟩ := wk1 i _ hd
    rw [List.drop_eq_getElem_cons hlt] at q2
    obtain ⟨N, hN, q2⟩ := q2
    refine ⟨go, fun σ' H' => ∃ P' al' M' env', Ext P1 al1 H1 P' al' H' ∧ RS X.K B P' al' M' env' σ' H' ∧ N env' M', fun σ' H' ⟨P', al', M', env', e', rs', n'⟩ => ⟨ds.length - (i + 1), by omega, rfl, hlt, P', al', M', env', e', rs', hN _ _ n'⟩, fun x H3 y => ?_⟩
    obtain ⟨P3, e3, r3, rx⟩ := yl x H3 y
    refine ⟨P3, al2, M2, env2, _, _, rs2.step e3 r3, rx, q2, fun env4 M4 σ4 H4 P4 al4 e4 rs4 q4 => ?_⟩
    have e14 := e2.trans (e3.trans e4)
    refine ⟨P4, al4, M4, env4, _, rs4, q4, ⟨fun env5 M5 σ5 H5 P5 al5 e5 rs5 n5 => ⟨P5, al5, M5, env5, e14.trans e5, rs5, n5⟩, fun d M5 v H5 P5 al5 e5 rs5 r5 q5 => L.rt _ _ _ _ _ _ (e1.trans (e14.trans e5)) rs5 r5 q5, fun env5 M5 σ5 H5 P5 al5 e5 rs5 q5 => L.nx _ _ _ _ _ _ (e1.trans (e14.trans e5)) rs5 q5, fun env5 M5 σ5 H5 P5 al5 e5 rs5 n5 => ⟨P5, al5, M5, env5, e14.trans e5, rs5, n5⟩⟩⟩
  · left
    have ei : i = ds.length := by omega
    subst ei
    rw [List.drop_length] at q2
    exact ⟨wk2, L.nx _ _ _ _ _ _ (e1.trans e2) rs2 q2⟩

/-! ### list comprehensions -/
def wipeE (env : Ev) : List Nat → Ev
  | [] => env
  | v :: vs => (wipeE env vs).set v none
theorem RS.wipe {P : Hp} {al : List Addr} {M : Mt} {env : Ev} {σ : L2.St} {H : Hp} (rs : RS K B P al M env σ H) : ∀ vs : List Nat, RS K B P al M (wipeE env vs) (L2.wipe σ vs) H
  | [] => rs
  | v :: vs => by
    have ih := rs.wipe vs
    refine ⟨ih.toRS0, by simp [wipeE, L2.wipe, ih.slen], fun j d h => ?_⟩
    unfold wipeE at h
    by_cases hj : j = v
    · subst hj
      have hi : j < (wipeE env vs).length := by
        have := (List.getElem?_eq_some_iff.mp h).1
        simpa using this
      rw [List.getElem?_set_self hi] at h; cases h
    · rw [List.getElem?_set_ne (Ne.symm hj)] at h
      unfold L2.wipe
      rw [List.getElem?_set_ne (Ne.symm hj)]
      exact ih.slot j d h
abbrev WTs := Ev → Mt → (Bool → Mt → Prop) → Prop
abbrev DTs (B : Bs) (X : Cx) (ifs : List Expr) (w : WTs) : Prop := PTs X ifs (tDT X.K B w)
def wYes : WTs := fun _ M R => R true M
theorem _root_.L2.PTs.imp {X : Cx} {e : List Expr} {t u : TT} (h : PTs X e t) (i : ∀ σ H Q, u σ H Q → t σ H Q) : PTs X e u := ⟨fun pins s σ H Q I q => h.run pins s σ H Q I (i σ H Q q)⟩
theorem dts_nil : DTs B X [] wYes := by
  refine pts_nil.imp fun σ H Q => ?_
  rintro ⟨P, al, M, env, R, rs, hw, L⟩
  exact L _ _ _ _ _ Ext.refl rs hw
theorem dts_one {c : Expr} {t : WT} (h : DT B X c t) : DTs B X [c] t := pts_one h
theorem wipe_get (σ : L2.St) : ∀ (vs : List Nat) (j : Nat), (L2.wipe σ vs)[j]? = if j ∈ vs then (if j < σ.length then some none else none) else σ[j]?
  | [], j => by simp [L2.wipe]
  | v :: vs, j => by
    unfold L2.wipe
    by_cases hj : j = v
    · subst hj
      by_cases hl : j < σ.length
      · rw [List.getElem?_set_self (by rw [wipe_length]; exact hl)]; simp [hl]
      · rw [List.getElem?_eq_none (by rw [List.length_set, wipe_length]; omega)]; simp [hl]
    · rw [List.getElem?_set_ne (Ne.symm hj), wipe_get σ vs j]
      simp [hj]
theorem wipe_put {σ : L2.St} {vs : List Nat} {i : Nat} {x : Option V} (hi : i ∈ vs) : L2.wipe (σ.set i x) vs = L2.wipe σ vs := by
  apply List.ext_getElem?
  intro j
  rw [wipe_get, wipe_get, List.length_set]
  by_cases hj : j ∈ vs
  · simp [hj]
  · have : i ≠ j := fun z => hj (z ▸ hi)
    simp [hj, List.getElem?_set_ne this]
theorem wipe_wipe {σ : L2.St} {vs : List Nat} : L2.wipe (L2.wipe σ vs) vs = L2.wipe σ vs := by
  apply List.ext_getElem?
  intro j
  rw [wipe_get, wipe_length]
  by_cases hj : j ∈ vs
  · simp only [hj, if_true]; rw [wipe_get]; simp [hj]
  · simp [hj]
/-- a comprehension's names: one, or two, three of a tuple -/
def bnd (is : List Nat) (d : D) (env : Ev) (k : Ev → Prop) : Prop := match is with
  | [i] => k (env.set i (some d))
  | [i, j] => match d with
    | .tup [a, b] => k ((env.set i (some a)).set j (some b))
    | _ => False
  | _ => False
def lcL (is : List Nat) (t : WTs) (we : WE) (vs : List Nat) (env : Ev) : List D → List D → Mt → (List D → Mt → Prop) → Prop
  | [], acc, M, R => R acc M
  | d :: r, acc, M, R => bnd is d (wipeE env vs) fun env1 => t env1 M fun b M2 =>
      ifB b (we env1 M2 fun y M3 => Need (acc.length < sizeLine) ∧ lcL is t we vs env r (acc ++ [y]) M3 R) (lcL is t we vs env r acc M2 R)
def wLc (wi : WI) (is : List Nat) (t : WTs) (we : WE) (vs : List Nat) : WE := fun env M R => wi env M fun ds M1 => lcL is t we vs env ds [] M1 fun acc M2 => R (.lst acc) M2
/-- the same for a list that will change -/
def wLcM (wi : WI) (is : List Nat) (t : WTs) (we : WE) (vs : List Nat) : WE := fun env M R => wi env M fun ds M1 => lcL is t we vs env ds [] M1 fun acc M2 => R (.cel M2.length) (M2 ++ [.lst acc])
/-- how the target takes an item -/
def Binds1 (K : PySem.W.Frag) (g : TG) (is vs : List Nat) : Prop := ∀ (B : Bs) (P : Hp) (al : List Addr) (M : Mt) (env : Ev) (σ : L2.St) (H : Hp) (d : D) (v : V) (k : Ev → Prop) (Q : L2.St → Hp → Prop), RS K B P al M env σ H → Rep K P al d v → bnd is d env k →
  (∀ env' σ', RS K B P al M env' σ' H → L2.wipe σ' vs = L2.wipe σ vs → k env' → Q σ' H) → g v σ H Q
theorem binds_one {i : Nat} {vs : List Nat} (hi : i ∈ vs) : Binds1 K (gName i) [i] vs := fun B P al M env σ H d v k Q rs r h q => q _ _ (rs.put i r) (wipe_put hi) h
theorem binds_two {i j : Nat} {vs : List Nat} (hi : i ∈ vs) (hj : j ∈ vs) : Binds1 K (gTup K 2 (gCons (gName i) (gCons (gName j) gNil))) [i, j] vs := by
  intro B P al M env σ H d v k Q rs r h q
  cases r with
  | tup h1 h2 =>
    cases h2 with
    | nil => exact (show False from h).elim
    | cons q1 t =>
      cases t with
      | nil => exact (show False from h).elim
      | cons q2 t =>
        cases t with
        | nil => exact ⟨_, _, rfl, same_seqT rs.same h1, rfl, _, _, rfl, _, _, rfl, rfl, q _ _ ((rs.put i q1).put j q2) (by rw [wipe_put hj, wipe_put hi]) h⟩
        | cons _ _ => exact (show False from h).elim
  | _ => exact (show False from h).elim
/-- the core: what the block's rule asks -/
theorem lc_imp {wi : WI} {g : TG} {is vs : List Nat} {t : WTs} {we : WE} (bn : Binds1 K g is vs) {P al M env σ H} {R : D → Mt → Prop} {Q : VK} {fin : List D → Mt → (D → Mt → Prop) → Prop}
    (hfin : ∀ (P : Hp) (al : List Addr) (M : Mt) (σ : L2.St) (H : Hp) (p : Addr) (acc : List D) (vs : List V) (R : D → Mt → Prop) (Q : VK) (H0 P0 : Hp) (al0 : List Addr), RS K B P al M env σ H → Ext P0 al0 H0 P al H → H0 p = none → P p = none → p ∉ al → B.2.2 p = none → H p = some (.lst vs) → Reps K P al acc vs → fin acc M R → (∀ d M' P' al', Ext P0 al0 H0 P' al' H → RS K B P' al' M' env σ H → Rep K P' al' d (.ref p) → R d M' → Q (.ref p) H) → Q (.ref p) H)
    (rs : RS K B P al M env σ H) (hw : wi env M fun ds M1 => lcL is t we vs env ds [] M1 fun acc M2 => fin acc M2 R) (L : Lift K B P al env σ H R Q) : tLc (tDI K B wi) g (tDT K B t) (tD K B we) vs σ H Q := by
  refine ⟨P, al, M, env, _, rs, hw, fun ds M1 H1 P1 al1 J e1 rs1 wk q => fun p hp => ?_⟩
  obtain ⟨hb, na⟩ := rs1.toRS0.fresh hp
  have np := rs1.toRS0.free hp
  refine ⟨fun i m H2 => m = ds.length - i ∧ i ≤ ds.length ∧ ∃ P2 al2 M2 acc av, Ext P1 al1 H1 P2 al2 H2 ∧ RS K B P2 al2 M2 env σ H2 ∧ P2 p = none ∧ p ∉ al2 ∧ H2 p = some (.lst av) ∧ Reps K P2 al2 acc av ∧ lcL is t we vs env (ds.drop i) acc M2 (fun acc M2 => fin acc M2 R),
    ⟨ds.length, by simp, Nat.zero_le _, P1, al1, M1, [], [], Ext.refl.priv hp _, ⟨rs1.toRS0.priv np na hb _, rs1.slen, rs1.slot⟩, np, na, upd_same, .nil, q⟩, ?_⟩
  rintro i m H2 ⟨rfl, hi, P2, al2, M2, acc, av, e2, rs2, np2, na2, hpv, racc, q2⟩
  obtain ⟨wk1, wk2⟩ := wk B P2 al2 M2 H2 e2.pp e2.pre rs2.toRS0
  by_cases hlt : i < ds.length
  · right
    have hd : ds[i]? = some ds[i] := List.getElem?_eq_getElem hlt
    obtain ⟨go, yl⟩ := wk1 i _ hd
    rw [List.drop_eq_getElem_cons hlt] at q2
    refine ⟨go, fun H' => ∃ P' al' M' acc' av', Ext P1 al1 H1 P' al' H' ∧ RS K B P' al' M' env σ H' ∧ P' p = none ∧ p ∉ al' ∧ H' p = some (.lst av') ∧ Reps K P' al' acc' av' ∧ lcL is t we vs env (ds.drop (i + 1)) acc' M' (fun acc M2 => fin acc M2 R), fun H' ⟨P', al', M', acc', av', x⟩ => ⟨ds.length - (i + 1), by omega, rfl, hlt, P', al', M', acc', av', x⟩, fun x H3 y => ?_⟩
    obtain ⟨P3, e3, r3, rx⟩ := yl x H3 y
    have rs3 := (rs2.step e3 r3)
    -- what our own list is behind a step
    have keep : ∀ {Pa ala Ha Pb alb Hb w'}, Ext Pa ala Ha Pb alb Hb → Ha p = some (.lst w') → p ∉ ala → Pa p = none → Hb p = some (.lst w') ∧ p ∉ alb ∧ Pb p = none := fun {Pa ala Ha Pb alb Hb w'} e h n z =>
      ⟨e.fr _ _ h n, (fun m => by have := e.new _ m n; rw [h] at this; cases this), e.pn _ _ h (fun _ u => (by cases u)) z n⟩
    obtain ⟨hp3, na3, np3⟩ := keep e3 hpv na2 np2
    refine bn B P3 al2 M2 _ _ H3 _ x _ _ (rs3.wipe vs) rx q2 fun env4 σ4 rs4 hwp q4 => ⟨by rw [hwp, wipe_wipe], P3, al2, M2, env4, _, rs4, q4, fun b M5 H5 P5 al5 e5 rs5 q5 => ?_⟩
    obtain ⟨hp5, na5, np5⟩ := keep e5 hp3 na3 np3
    have e15 := e2.trans (e3.trans e5)
    have back : ∀ {P' al' M' H'}, Ext P3 al2 H3 P' al' H' → RS0 K B P' al' M' H' → RS K B P' al' M' env σ H' := fun {P' al' M' H'} e r => rs3.step e r
    cases b with
    | true =>
      rw [if_pos rfl]
      refine ⟨P5, al5, M5, env4, _, rs5, q5.1 rfl, fun y M6 v H6 P6 al6 e6 rs6 r6 q6 => ?_⟩
      obtain ⟨hp6, na6, np6⟩ := keep e6 hp5 na5 np5
      have racc6 := racc.mono (e3.trans (e5.trans e6)).pp (e3.trans (e5.trans e6)).pre
      refine ⟨av, hp6, by rw [← racc.length]; exact q6.1.out, P6, al6, M6, acc ++ [y], av ++ [v], (e15.trans e6).priv hp _, ?_, np6, na6, upd_same, racc6.append (.cons r6 .nil), q6.2⟩
      have r7 := back (e5.trans e6) rs6.toRS0
      exact ⟨r7.toRS0.priv np6 na6 hb _, r7.slen, r7.slot⟩
    | false =>
      rw [if_neg Bool.false_ne_true]
      exact ⟨P5, al5, M5, acc, av, e15, back e5 rs5.toRS0, np5, na5, hp5, racc.mono (e3.trans e5).pp (e3.trans e5).pre, q5.2 rfl⟩
  · left
    have ei : i = ds.length := by omega
    subst ei
    rw [List.drop_length] at q2
    refine ⟨wk2, ?_⟩
    exact hfin P2 al2 M2 σ H2 p acc av R Q H1 P1 al1 rs2 e2 hp np2 na2 hb hpv racc q2 fun d M' P' al' e rs' r z => L _ _ _ _ _ _ (e1.trans e) rs' r z
theorem d_lc {elt : Expr} {ifs : List Expr} {scope : Scope} {own : List (Str × Nat)} {g : TG} {is : List Nat} {wi : WI} {t : WTs} (hc : X.calm = true) (hN : X.N.Nodup) (hi : DI B X tg e wi) (ok : BlkOk X.N X.env.scope scope own)
    (hg : ∀ (s : Shared) (H : Hp) (C : Addr) (cl : List (Str × Addr)) (fp : List Addr), PG (X.blk s H scope (compEnvC scope cl C X.env) fp) tg g) (bn : Binds1 X.K g is (own.map (·.2)))
    (ht : ∀ (s : Shared) (H : Hp) (C : Addr) (cl : List (Str × Addr)) (fp : List Addr), DTs B (X.blk s H scope (compEnvC scope cl C X.env) fp) ifs t)
    (he : ∀ (s : Shared) (H : Hp) (C : Addr) (cl : List (Str × Addr)) (fp : List Addr), DE B (X.blk s H scope (compEnvC scope cl C X.env) fp) elt we) (hs : ∀ x, foldedSetIterable e X.env x = pure x := by intro _; rfl) :
    DE B X (.ListComp elt [⟨tg, e, ifs, 0⟩] scope pos) (wLc wi is t we (own.map (·.2))) := by
  refine (pe_lc (tt := tDT X.K B t) (te := tD X.K B we) hc hN hi ok hg ht he hs).imp fun σ H Q => ?_
  rintro ⟨P, al, M, env, R, rs, hw, L⟩
  refine lc_imp (fin := fun acc M R => R (.lst acc) M) bn (fun P al M σ H p acc vs R Q H0 P0 al0 rs e hp np na hb hv ra hr hq => ?_) rs hw L
  have sm : Same P (upd P p (.lst vs)) := fun b x h => by rw [upd_ne (ne_of_none h np)]; exact h
  refine hq _ _ _ _ (e.pub hp np (.lst vs)) ⟨rs.toRS0.pub np na hb hv, rs.slen, fun j d h => ?_⟩ (.lst upd_same (ra.mono sm (List.prefix_refl _))) hr
  obtain ⟨v, h1, h2⟩ := rs.slot j d h
  exact ⟨v, h1, h2.mono sm (List.prefix_refl _)⟩
end
end L3

namespace L3
open PySem PySem.Spec PyProof.Rows L2
/-! ### calls of the text's defs -/
abbrev RXt := Addr → List (Str × D) → Mt → Prop
abbrev RX0 : RXt := fun _ _ _ => False
abbrev DSp := List D → Mt → (D → Mt → Prop) → RXt → Prop
/-- an exception's own dict -/
def XdOk (K : PySem.W.Frag) (P : Hp) (al : List Addr) (H : Hp) (fs : List (Str × D)) (dd : Option Addr) : Prop :=
  (dd = none ∧ fs = []) ∨ ∃ d gs, dd = some d ∧ H d = some (.xd gs) ∧ RepFs K P al fs gs
def toSp (K : PySem.W.Frag) (sp : DSp) : Sp := fun vs H Q E => ∃ P al M ds R, ∃ RX : RXt, RS0 K (P, al, H) P al M H ∧ Reps K P al ds vs ∧ sp ds M R RX ∧
  (∀ d M' v H' P' al', Ext P al H P' al' H' → RS0 K (P, al, H) P' al' M' H' → Rep K P' al' d v → R d M' → Q v H') ∧
  (∀ C fs M' H' P' al' dd, Ext P al H P' al' H' → RS0 K (P, al, H) P' al' M' H' → XdOk K P' al' H' fs dd → RX C fs M' → E (.ref C) dd H')
section
variable {K : PySem.W.Frag} {B B' : Bs} {P P' : Hp} {al al' : List Addr} {M M' : Mt} {env : Ev} {σ : L2.St} {H H' : Hp}
theorem RS0.rebase (r : RS0 K B P al M H) (e : Ext B'.1 B'.2.1 B'.2.2 P al H) : RS0 K B' P al M H := ⟨e, r.same, r.len, r.cell, r.inj, r.trk⟩
theorem RS0.here (r : RS0 K B P al M H) : RS0 K (P, al, H) P al M H := r.rebase Ext.refl
end
section
variable {X : Cx} {B : Bs} {CX : CXT} {k : Nat} {f : Addr} {fd : FuncData} {ps : List Str} {sp : DSp} {dvs : List V} {dds : List D} {ds : List Value} {x : Str} {p pos : Pos} {e : Expr} {es : List Expr} {was : WA}
def wCall (sp : DSp) (dds : List D) (RX : RXt) (was : WA) : WE := fun env M R => was env M fun ds M1 => sp (ds ++ dds) M1 R RX
theorem call_imp {K : PySem.W.Frag} (hdd : ∀ P al, Reps K P al dds dvs) (σ : L2.St) (H : Hp) (Q : VK) : tD K B (wCall sp dds RX0 was) σ H Q → tCall (toSp K sp) dvs E0 (tDA K B was) σ H Q := by
  rintro ⟨P, al, M, env, R, rs, hw, L⟩
  refine ⟨P, al, M, env, _, rs, hw, fun ds M1 vs H1 P1 al1 e1 rs1 r1 q => ?_⟩
  exact ⟨P1, al1, M1, _, R, RX0, rs1.toRS0.here, r1.append (hdd _ _), q, fun d M' v H' P' al' e r0 r hq => L _ _ _ _ _ _ (e1.trans e) (rs1.step e (r0.rebase (rs1.base.trans e))) r hq, fun _ _ _ _ _ _ _ _ _ _ z => z.elim⟩
theorem d_call (F : FnOk X.prog X.w X.K X.mg X.base CX0 k f fd ps (toSp X.K sp)) (hr : Room k X.A) (hg : Gl X x) (hm : X.mg x = some (.ref f)) (hk : PySem.W.keepIn X.K (.ref f) = true) (hb : Binds X.K fd ps ds) (hd : Vals dvs ds) (hdd : ∀ P al, Reps X.K P al dds dvs) (ha : DA B X (e :: es) was)
    (hdb : (x == ("__debug__" : Str)) = false := by decide) (he : starEach (e :: es) X.env = (false, eval e X.env) :: starEach es X.env := by rfl) (hpl : (backTo pos (starEach es X.env)).any (·.1) = false := by rfl) : DE B X (.Call (.Name x p) (e :: es) [] pos) (wCall sp dds RX0 was) :=
  (pe_call F hr hg hm hk hb hd pass0 ha hdb he hpl).imp (call_imp hdd)
theorem d_call0 (F : FnOk X.prog X.w X.K X.mg X.base CX0 k f fd ps (toSp X.K sp)) (hr : Room k X.A) (hg : Gl X x) (hm : X.mg x = some (.ref f)) (hk : PySem.W.keepIn X.K (.ref f) = true) (hb : Binds X.K fd ps ds) (hd : Vals dvs ds) (hdd : ∀ P al, Reps X.K P al dds dvs)
    (hdb : (x == ("__debug__" : Str)) = false := by decide) : DE B X (.Call (.Name x p) [] [] pos) (wCall sp dds RX0 wNil) := by
  refine (pe_call0 F hr hg hm hk hb hd pass0 hdb).imp fun σ H Q h => ?_
  obtain ⟨P, al, M, env, R, rs, hw, L⟩ := call_imp (was := wNil) hdd σ H Q h
  exact L _ _ _ _ _ _ Ext.refl rs .nil hw
end
/-! ### the end of a def -/
mutual
def noCel (n : Nat) : D → Bool
  | .tup l => noCels n l
  | .lst l => noCels n l
  | .rol l => noCels n l
  | .dct l => noCelK n l
  | .obj _ l => noCelF n l
  | .cel i => decide (i < n)
  | _ => true
def noCels (n : Nat) : List D → Bool
  | [] => true
  | d :: r => noCel n d && noCels n r
def noCelK (n : Nat) : List (Key × D) → Bool
  | [] => true
  | (_, d) :: r => noCel n d && noCelK n r
def noCelF (n : Nat) : List (Str × D) → Bool
  | [] => true
  | (_, d) :: r => noCel n d && noCelF n r
end
section
variable {K : PySem.W.Frag} {B : Bs} {P : Hp} {al al' : List Addr} {M : Mt} {H : Hp}
theorem and_l {a b : Bool} (h : (a && b) = true) : a = true := (Bool.and_eq_true_iff.mp h).1
theorem and_r {a b : Bool} (h : (a && b) = true) : b = true := (Bool.and_eq_true_iff.mp h).2
mutual
theorem Rep.cut (h : al <+: al') : ∀ {d : D} {v : V}, Rep K P al' d v → noCel al.length d = true → Rep K P al d v
  | _, _, .non, _ => .non
  | _, _, .bl b, _ => .bl b
  | _, _, .int i, _ => .int i
  | _, _, .str x, _ => .str x
  | _, _, .ty n, _ => .ty n
  | _, _, .adr a, _ => .adr a
  | _, _, .tup q r, e => .tup q (Reps.cutA h r (by simpa [noCel] using e))
  | _, _, .lst q r, e => .lst q (Reps.cutA h r (by simpa [noCel] using e))
  | _, _, .rol q r, e => .rol q (Reps.cutA h r (by simpa [noCel] using e))
  | _, _, .dct q r, e => .dct q (RepKs.cutA h r (by simpa [noCel] using e))
  | _, _, .obj q r, e => .obj q (RepFs.cutA h r (by simpa [noCel] using e))
  | _, _, .cel q, e => .cel (by
    have hi : _ < al.length := of_decide_eq_true (by simpa [noCel] using e)
    obtain ⟨t, rfl⟩ := h
    rw [List.getElem?_append_left hi] at q; exact q)
theorem Reps.cutA (h : al <+: al') : ∀ {ds : List D} {vs : List V}, Reps K P al' ds vs → noCels al.length ds = true → Reps K P al ds vs
  | _, _, .nil, _ => .nil
  | _, _, .cons r t, e => .cons (Rep.cut h r (and_l (by simpa only [noCels] using e))) (Reps.cutA h t (and_r (by simpa only [noCels] using e)))
theorem RepKs.cutA (h : al <+: al') : ∀ {ds : List (Key × D)} {vs : List (Key × V)}, RepKs K P al' ds vs → noCelK al.length ds = true → RepKs K P al ds vs
  | _, _, .nil, _ => .nil
  | _, _, .cons r t, e => .cons (Rep.cut h r (and_l (by simpa only [noCelK] using e))) (RepKs.cutA h t (and_r (by simpa only [noCelK] using e)))
theorem RepFs.cutA (h : al <+: al') : ∀ {ds : List (Str × D)} {vs : List (Str × V)}, RepFs K P al' ds vs → noCelF al.length ds = true → RepFs K P al ds vs
  | _, _, .nil, _ => .nil
  | _, _, .cons r t, e => .cons (Rep.cut h r (and_l (by simpa only [noCelF] using e))) (RepFs.cutA h t (and_r (by simpa only [noCelF] using e)))
end
/-- what an object of the table may hold, when the later places are dropped -/
def cellOk (n : Nat) : D → Bool
  | .lst l => noCels n l
  | .dct l => noCelK n l
  | .obj _ l => noCelF n l
  | _ => true
theorem RS0.drop {P0 H0 : Hp} (r : RS0 K (P0, al, H0) P al' M H) (hc : ∀ (i : Nat) (m : D), i < al.length → M[i]? = some m → cellOk al.length m = true) : RS0 K (P0, al, H0) P al (M.take al.length) H := by
  have pre : al <+: al' := r.base.pre
  have hl : al.length ≤ M.length := by rw [← r.len]; exact pre.length_le
  refine ⟨⟨r.base.pp, List.prefix_refl _, r.base.fr, fun b m n => absurd m n, r.base.pn⟩, r.same, by simp; omega, fun i a m h1 h2 => ?_, fun i j a m n h1 h2 h3 h4 => r.inj i j a m n (pre_get pre h1) (pre_get pre h2) ?_ ?_, fun a h => r.trk a (pre.subset h)⟩
  · have hi := (List.getElem?_eq_some_iff.mp h1).1
    rw [List.getElem?_take_of_lt hi] at h2
    have c := r.cell i a m (pre_get pre h1) h2
    have k := hc i m hi h2
    cases m <;> first | trivial | skip
    · obtain ⟨q1, xs, q2, q3⟩ := c; exact ⟨q1, xs, q2, q3.cutA pre k⟩
    · obtain ⟨q1, xs, q2, q3⟩ := c; exact ⟨q1, xs, q2, q3.cutA pre k⟩
    · obtain ⟨q1, dx, xs, q2, q3⟩ := c; exact ⟨q1, dx, xs, q2, q3.cutA pre k⟩
  · rw [List.getElem?_take_of_lt (List.getElem?_eq_some_iff.mp h1).1] at h3; exact h3
  · rw [List.getElem?_take_of_lt (List.getElem?_eq_some_iff.mp h2).1] at h4; exact h4
end
/-- a def's end: the objects that it made and did not hand back are dropped -/
inductive retF (n : Nat) (R : D → Mt → Prop) (d : D) (M : Mt) : Prop where
  | keep : R d M → retF n R d M
  | less : noCel n d = true → (M.take n).all (cellOk n) = true → R d (M.take n) → retF n R d M
def startE (n : Nat) (ds : List D) : Ev := ds.map some ++ List.replicate (n - ds.length) none
def fnEnds (n : Nat) (R : D → Mt → Prop) : DEnds := ⟨fun _ M => retF n R .non M, retF n R, fun _ _ => False, fun _ _ => False⟩
section
variable {P : Program} {w : World} {K : PySem.W.Frag} {mg : Str → Option Value} {base : Heap}
theorem start_slots {Pp : Hp} {al : List Addr} {ds : List D} {vs : List V} {N : List Str} (r : Reps K Pp al ds vs) : (startE N.length ds).length = (L2.start N vs).length ∧ ∀ (j : Nat) (d : D), (startE N.length ds)[j]? = some (some d) → ∃ v, (L2.start N vs)[j]? = some (some v) ∧ Rep K Pp al d v := by
  have hl := r.length
  refine ⟨by simp [startE, L2.start, hl], fun j d h => ?_⟩
  unfold startE at h
  unfold L2.start
  by_cases hj : j < ds.length
  · rw [List.getElem?_append_left (by simpa using hj), List.getElem?_map] at h
    cases hd : ds[j]? with
    | none => rw [hd] at h; cases h
    | some d' =>
      rw [hd] at h; cases h
      obtain ⟨v, h1, h2⟩ := r.get hd
      exact ⟨v, by rw [List.getElem?_append_left (by simp; omega), List.getElem?_map, h1]; rfl, h2⟩
  · rw [List.getElem?_append_right (by simp; omega)] at h
    have := List.mem_of_getElem? h
    simp at this
theorem dfn {x qual : Str} {st : Stmt} {f : Addr} {fd : FuncData} {N ps : List Str} {k : Nat} {sp : DSp} (F : Fun K x qual st f fd) (S : FnScope N ps (defScope st)) (len : ∀ ds M R RX, sp ds M R RX → ds.length = ps.length)
    (body : ∀ (B : Bs) (cdv : Value) (A : Around) (outer : List Env) (s : Shared) (H : Hp) (E : XK), Room k (A.deeper (envOfC qual (defScope st) s.heap.objs.size f cdv)) →
      ∃ wb : WS, DSs B (cxOf CX0 P w K mg base N qual (defScope st) f cdv A outer s H E).nox (defBody st) wb ∧ ∀ ds M R RX, sp ds M R RX → wb (fnEnds M.length R) (startE N.length ds) M) :
    FnOk P w K mg base CX0 (k + 1) f fd ps (toSp K sp) := by
  refine F.ok S (fun vs H Q E h => ?_) (fun cdv A outer s H vs Q E hr h => ?_)
  · obtain ⟨P, al, M, ds, R, RX, _, r, hs, _⟩ := h
    rw [← r.length]; exact len _ _ _ _ hs
  · obtain ⟨Pp, al, M, ds, R, RX, r0, r, hs, L, _⟩ := h
    obtain ⟨wb, hb, hw⟩ := body (Pp, al, H) cdv A outer s H E hr
    have el := r0.len
    have fin : ∀ d M' v H' P' al', Ext Pp al H P' al' H' → RS0 K (Pp, al, H) P' al' M' H' → Rep K P' al' d v → retF M.length R d M' → Q v H' := fun d M' v H' P' al' e r' rd q => by
      cases q with
      | keep q => exact L d M' v H' P' al' e r' rd q
      | less q1 q2 q3 =>
        rw [← el] at q1 q2 q3
        refine L d _ v H' P' al ⟨e.pp, List.prefix_refl _, e.fr, fun b m n => absurd m n, e.pn⟩ (r'.drop fun i m hi hm => ?_) (rd.cut e.pre q1) q3
        exact List.all_eq_true.mp q2 m (List.mem_of_getElem? (by rw [List.getElem?_take_of_lt hi]; exact hm))
    obtain ⟨s1, s2⟩ := start_slots (N := N) r
    exact ⟨_, hb, Pp, al, M, _, _, ⟨r0, s1, s2⟩, hw ds M R RX hs, ⟨fun env' M' σ' H' P' al' e rs q => fin _ _ _ _ _ _ e rs.toRS0 .non q, fun d M' v H' P' al' e rs rd q => fin _ _ _ _ _ _ e rs rd q, fun _ _ _ _ _ _ _ _ z => z.elim, fun _ _ _ _ _ _ _ _ z => z.elim⟩⟩
end

/-! ### built-in functions -/
section
variable {X : Cx} {B : Bs} {K : PySem.W.Frag}
def cLen : WCl := fun ds M R => match ds with
  | [x] => match viewD M x with
    | .str s => Need (s.length ≤ sizeLine) ∧ R (.int s.length) M
    | .dct l => R (.int l.length) M
    | x' => match seqD x' with
      | some l => R (.int l.length) M
      | none => False
  | _ => False
def rLenU (K : PySem.W.Frag) : List V → Hp → VK → Prop := fun xs H Q => (∃ x n, xs = [x] ∧ LenV K x H n ∧ Q (.int n) H) ∨ ∃ a kvs, xs = [V.ref a] ∧ H a = some (.dK kvs) ∧ Q (.int kvs.length) H
theorem callLen : CallR X (.builtin "len") (rLenU X.K) := call_len.or call_lenD
theorem cLen_ok : CallD K B (rLenU K) cLen := by
  intro P al M env σ H vs ds R Q rs r h L
  unfold cLen at h
  split at h
  · rename_i x
    cases r with
    | cons r1 t =>
      cases t
      split at h
      · rename_i s e; cases view_str r1 e; exact .inl ⟨_, _, rfl, ⟨h.1.out, rfl⟩, L.here rs (.int _) h.2⟩
      · rename_i l e
        obtain ⟨a, xs, rfl, h1, q1⟩ := view_dct rs.toRS0 r1 e
        exact .inr ⟨a, xs, rfl, h1, by rw [q1.length] at h; exact L.here rs (.int _) h⟩
      · split at h
        · rename_i l e
          obtain ⟨a, xs, rfl, h1, q1⟩ := view_seq rs.toRS0 r1 e
          rw [q1.length] at h
          refine .inl ⟨_, xs.length, rfl, ?_, L.here rs (.int _) h⟩
          rcases h1 with h1 | h1
          · exact .inl ⟨xs, h1, rfl⟩
          · exact .inr ⟨xs, h1, rfl⟩
        · exact h.elim
  · exact h.elim
def cInt : WCl := fun ds M R => match ds with
  | [.int i] => R (.int i) M
  | [.bl b] => R (.int (if b then 1 else 0)) M
  | _ => False
theorem cInt_ok : CallD K B (fun xs H Q => (∃ i, xs = [.int i] ∧ Q (.int i) H) ∨ ∃ k, xs = [.bl k] ∧ Q (.int (if k then 1 else 0)) H) cInt := by
  intro P al M env σ H vs ds R Q rs r h L
  unfold cInt at h
  split at h
  · cases r with | cons r1 t => cases t; cases r1; exact .inl ⟨_, rfl, L.here rs (.int _) h⟩
  · cases r with | cons r1 t => cases t; cases r1; exact .inr ⟨_, rfl, L.here rs (.int _) h⟩
  · exact h.elim
def absI (i : Int) : Int := if i < 0 then -i else i
def cAbs : WCl := fun ds M R => match ds with
  | [.int i] => R (.int (absI i)) M
  | _ => False
theorem cAbs_ok : CallD K B (fun xs H Q => ∃ i, xs = [.int i] ∧ Q (.int (if i < 0 then -i else i)) H) cAbs := by
  intro P al M env σ H vs ds R Q rs r h L
  unfold cAbs at h
  split at h
  · cases r with | cons r1 t => cases t; cases r1; exact ⟨_, rfl, L.here rs (.int _) h⟩
  · exact h.elim
def cStrI : WCl := fun ds M R => match ds with
  | [.int i] => Need (i.natAbs.log2 < 1920) ∧ R (.str (toString i)) M
  | _ => False
theorem cStrI_ok : CallD K B (fun xs H Q => ∃ i, xs = [.int i] ∧ i.natAbs.log2 < 1920 ∧ Q (.str (toString i)) H) cStrI := by
  intro P al M env σ H vs ds R Q rs r h L
  unfold cStrI at h
  split at h
  · cases r with | cons r1 t => cases t; cases r1; exact ⟨_, rfl, h.1.out, L.here rs (.str _) h.2⟩
  · exact h.elim
/-- list(x), a new one -/
def cList (m : Bool) : WCl := fun ds M R => match ds with
  | [x] => match seqD (viewD M x) with
    | some l => if m then R (.cel M.length) (M ++ [.lst l]) else R (.lst l) M
    | none => False
  | _ => False
theorem cList_ok {m : Bool} : CallD K B (fun xs H Q => ∃ p ys, xs = [.ref p] ∧ (SqL K H p ys ∨ SqT K H p ys) ∧ ∀ l, H l = none → Q (.ref l) (upd H l (.lst ys))) (cList m) := by
  intro P al M env σ H vs ds R Q rs r h L
  unfold cList at h
  split at h
  · cases r with
    | cons r1 t =>
      cases t
      split at h
      · rename_i l e
        obtain ⟨a, xs, rfl, h1, q1⟩ := view_seq rs.toRS0 r1 e
        refine ⟨a, xs, rfl, h1, fun p hp => ?_⟩
        cases m with
        | true => exact L.allocM rs hp q1 h
        | false => exact L.alloc rs hp (.lst upd_same (q1.mono (same_new rs.toRS0 hp) (List.prefix_refl _))) h
      · exact h.elim
  · exact h.elim
def cTuple : WCl := fun ds M R => match ds with
  | [x] => match viewD M x with
    | .tup l => R (.tup l) M
    | .lst l => R (.tup l) M
    | .rol l => R (.tup l) M
    | _ => False
  | _ => False
theorem cTuple_ok : CallD K B (fun xs H Q => ∃ p ys, xs = [.ref p] ∧ ((SqL K H p ys ∧ ∀ l, H l = none → Q (.ref l) (upd H l (.tup ys))) ∨ (SqT K H p ys ∧ Q (.ref p) H))) cTuple := by
  intro P al M env σ H vs ds R Q rs r h L
  unfold cTuple at h
  split at h
  · cases r with
    | cons r1 t =>
      cases t
      split at h
      · rename_i l e
        obtain ⟨a, xs, rfl, h1, q1⟩ := view_tup rs.toRS0 r1 e
        rw [view_same rfl e] at r1
        exact ⟨a, xs, rfl, .inr ⟨h1, L.here rs r1 h⟩⟩
      · rename_i l e
        obtain ⟨a, xs, rfl, h1, q1⟩ := view_lst rs.toRS0 r1 e
        exact ⟨a, xs, rfl, .inl ⟨.inl (.inl h1), fun p hp => L.alloc rs hp (.tup (.inl (.inl upd_same)) (q1.mono (same_new rs.toRS0 hp) (List.prefix_refl _))) h⟩⟩
      · rename_i l e
        obtain ⟨a, xs, rfl, h1, q1⟩ := view_rol rs.toRS0 r1 e
        exact ⟨a, xs, rfl, .inl ⟨h1, fun p hp => L.alloc rs hp (.tup (.inl (.inl upd_same)) (q1.mono (same_new rs.toRS0 hp) (List.prefix_refl _))) h⟩⟩
      · exact h.elim
  · exact h.elim
def boolsD : List D → Option (List Bool)
  | [] => some []
  | .bl b :: r => (boolsD r).map (b :: ·)
  | _ => none
theorem bools_rep {P : Hp} {al : List Addr} : ∀ {ds : List D} {vs : List V} {bs : List Bool}, Reps K P al ds vs → boolsD ds = some bs → vs = bs.map V.bl
  | _, _, _, .nil, e => by cases e; rfl
  | _, _, _, .cons (d := d) (ds := ds) r t, e => by
    cases d <;> simp [boolsD] at e
    obtain ⟨bs, h, rfl⟩ := e
    cases r
    rw [bools_rep t h]; rfl
def lstD : D → Option (List D)
  | .lst l => some l
  | .rol l => some l
  | _ => none
theorem view_lstD {P : Hp} {al : List Addr} {M : Mt} {H : Hp} {d : D} {v : V} (r : RS0 K B P al M H) (q : Rep K P al d v) {ds : List D} (e : lstD (viewD M d) = some ds) : ∃ a xs, v = .ref a ∧ SqL K H a xs ∧ Reps K P al ds xs := by
  cases h : viewD M d <;> rw [h] at e <;> simp [lstD] at e
  · obtain ⟨a, xs, e1, e2, e3⟩ := view_lst r q h; subst e; exact ⟨a, xs, e1, .inl (.inl e2), e3⟩
  · obtain ⟨a, xs, e1, e2, e3⟩ := view_rol r q h; subst e; exact ⟨a, xs, e1, e2, e3⟩
def cAll (f : List Bool → Bool) : WCl := fun ds M R => match ds with
  | [x] => match lstD (viewD M x) with
    | some l => match boolsD l with
      | some bs => R (.bl (f bs)) M
      | none => False
    | none => False
  | _ => False
theorem cAll_ok {f : List Bool → Bool} : CallD K B (fun vs H Q => ∃ (a : Addr) (bs : List Bool), vs = [V.ref a] ∧ SqL K H a (bs.map V.bl) ∧ Q (.bl (f bs)) H) (cAll f) := by
  intro P al M env σ H vs ds R Q rs r h L
  unfold cAll at h
  split at h
  · cases r with
    | cons r1 t =>
      cases t
      split at h
      · rename_i l e1
        split at h
        · rename_i bs e2
          obtain ⟨a, xs, rfl, h1, q1⟩ := view_lstD rs.toRS0 r1 e1
          have := bools_rep q1 e2; subst this
          exact ⟨a, bs, rfl, h1, L.here rs (.bl _) h⟩
        · exact h.elim
      · exact h.elim
  · exact h.elim
/-- isinstance(x, T), T a built-in class -/
def tyN (M : Mt) (d : D) : Option String := match viewD M d with
  | .non => some "NoneType"
  | .bl _ => some "bool"
  | .int _ => some "int"
  | .str _ => some "str"
  | .tup _ => some "tuple"
  | .lst _ => some "list"
  | .dct _ => some "dict"
  | _ => none
/-- the answers, as a table -/
def isB (a b : String) : Bool := if a = b then true else if a = "bool" then decide (b = "int") else false
def isBs : List String := ["NoneType", "bool", "int", "str", "tuple", "list", "dict"]
theorem isB_ok : ∀ a ∈ isBs, ∀ b ∈ ["bool", "int", "str", "tuple", "list", "dict"], kitB a b = some (isB a b) := by decide +kernel
theorem tyN_ok {P : Hp} {al : List Addr} {M : Mt} {H : Hp} {d : D} {v : V} {n : String} (rs : RS0 K B P al M H) (r : Rep K P al d v) (e : tyN M d = some n) : n ∈ isBs ∧ TyX K H v (.type n) := by
  unfold tyN at e
  split at e <;> try cases e
  · rename_i h; cases view_non r h; exact ⟨by decide, .base .non⟩
  · rename_i h; cases view_bl r h; exact ⟨by decide, .base (.bl _)⟩
  · rename_i h; cases view_int r h; exact ⟨by decide, .base (.int _)⟩
  · rename_i h; cases view_str r h; exact ⟨by decide, .base (.str _)⟩
  · rename_i h
    obtain ⟨a, xs, rfl, h1, q1⟩ := view_tup rs r h
    refine ⟨by decide, ?_⟩
    rcases h1 with (h1 | ⟨o, h1⟩) | ⟨o, its, m, h1, h2, _⟩
    · exact .base (.tup h1)
    · exact .fTuple h1
    · exact .kTuple h1 h2
  · rename_i h
    obtain ⟨a, xs, rfl, h1, q1⟩ := view_lst rs r h
    exact ⟨by decide, .base (.lst h1)⟩
  · rename_i h
    obtain ⟨a, xs, rfl, h1, q1⟩ := view_dct rs r h
    exact ⟨by decide, .base (.dK h1)⟩
def cIsi : WCl := fun ds M R => match ds with
  | [x, .ty b] => match tyN M x with
    | some a => Need (b ∈ ["bool", "int", "str", "tuple", "list", "dict"]) ∧ R (.bl (isB a b)) M
    | none => False
  | _ => False
theorem cIsi_ok : CallD K B (rIsi K) cIsi := by
  intro P al M env σ H vs ds R Q rs r h L
  unfold cIsi at h
  split at h
  · cases r with
    | cons r1 t => cases t with
      | cons r2 t =>
        cases t; cases r2
        split at h
        · rename_i b _ a e
          obtain ⟨m, ty⟩ := tyN_ok rs.toRS0 r1 e
          exact ⟨_, _, _, _, _, rfl, .ty _, ty, kit_ty (isB_ok a m _ h.1.out), L.here rs (.bl _) h.2⟩
        · exact h.elim
  · exact h.elim
end
end L3

namespace L3
open PySem PySem.Spec PyProof.Rows L2
/-! ### dicts -/
section
variable {κ : Type} [DecidableEq κ]
def valD (kvs : List (κ × D)) (k : κ) : Option D := (kvs.find? fun kv => decide (kv.1 = k)).map (·.2)
def putD (kvs : List (κ × D)) (k : κ) (v : D) : List (κ × D) :=
  if (kvs.any fun kv => decide (kv.1 = k)) = true then kvs.map (fun kv => if kv.1 = k then (kv.1, v) else kv) else kvs ++ [(k, v)]
def mergeD (kvs more : List (κ × D)) : List (κ × D) := more.foldl (fun acc kv => putD acc kv.1 kv.2) kvs
end
section
variable {K : PySem.W.Frag} {P : Hp} {al : List Addr}
theorem RepKs.val : ∀ {ks : List (Key × D)} {vs : List (Key × V)}, RepKs K P al ks vs → ∀ (k : Key), (∀ d, valD ks k = some d → ∃ v, valV vs k = some v ∧ Rep K P al d v) ∧ (valD ks k = none → valV vs k = none)
  | _, _, .nil, k => ⟨fun d h => by simp [valD] at h, fun _ => rfl⟩
  | _, _, .cons (k := j) (d := d) (v := v) (ds := ds) (vs := vs) r t, k => by
    have ih := t.val k
    by_cases h : j = k
    · subst h
      have e1 : valD ((j, d) :: ds) j = some d := by simp [valD]
      have e2 : valV ((j, v) :: vs) j = some v := valV_pos rfl
      refine ⟨fun d' h => ?_, fun h => ?_⟩
      · rw [e1] at h; cases h; exact ⟨v, e2, r⟩
      · rw [e1] at h; cases h
    · have e1 : valD ((j, d) :: ds) k = valD ds k := by simp [valD, List.find?_cons, h]
      have e2 : valV ((j, v) :: vs) k = valV vs k := valV_neg h
      rw [e1, e2]; exact ih
theorem RepKs.any : ∀ {ks : List (Key × D)} {vs : List (Key × V)}, RepKs K P al ks vs → ∀ (k : Key), (ks.any fun kv => decide (kv.1 = k)) = vs.any fun kv => decide (kv.1 = k)
  | _, _, .nil, k => rfl
  | _, _, .cons r t, k => by rw [List.any_cons, List.any_cons, t.any k]
theorem RepKs.repl {d : D} {v : V} (q : Rep K P al d v) (k : Key) : ∀ {ks : List (Key × D)} {vs : List (Key × V)}, RepKs K P al ks vs → RepKs K P al (ks.map fun kv => if kv.1 = k then (kv.1, d) else kv) (vs.map fun kv => if kv.1 = k then (kv.1, v) else kv)
  | _, _, .nil => .nil
  | _, _, .cons (k := j) r t => by
    rw [List.map_cons, List.map_cons]
    by_cases h : j = k
    · simp only [h, if_true]; exact .cons q (t.repl q k)
    · simp only [h, if_false]; exact .cons r (t.repl q k)
theorem RepKs.snoc {d : D} {v : V} (q : Rep K P al d v) (k : Key) : ∀ {ks : List (Key × D)} {vs : List (Key × V)}, RepKs K P al ks vs → RepKs K P al (ks ++ [(k, d)]) (vs ++ [(k, v)])
  | _, _, .nil => .cons q .nil
  | _, _, .cons r t => .cons r (t.snoc q k)
theorem RepKs.put {d : D} {v : V} {ks : List (Key × D)} {vs : List (Key × V)} (r : RepKs K P al ks vs) (q : Rep K P al d v) (k : Key) : RepKs K P al (putD ks k d) (putK vs k v) := by
  unfold putD putK
  rw [r.any k]
  by_cases h : (vs.any fun kv => decide (kv.1 = k)) = true
  · rw [if_pos h, if_pos h]; exact r.repl q k
  · rw [if_neg h, if_neg h]; exact r.snoc q k
theorem RepKs.merge : ∀ {more : List (Key × D)} {moreV : List (Key × V)} {ks : List (Key × D)} {vs : List (Key × V)}, RepKs K P al more moreV → RepKs K P al ks vs → RepKs K P al (mergeD ks more) (mergeK vs moreV)
  | _, _, _, _, .nil, r => r
  | _, _, ks, vs, .cons (k := k) (d := d) (v := v) (ds := ds) (vs := vs') q t, r => by
    have h := RepKs.merge t (r.put q k)
    exact h
end
def keyD : D → Option Key
  | .int i => some (.inl i)
  | .str s => some (.inr s)
  | _ => none
theorem key_rep {K : PySem.W.Frag} {P : Hp} {al : List Addr} {d : D} {v : V} {k : Key} (r : Rep K P al d v) (e : keyD d = some k) : v = kV k := by
  cases r <;> simp [keyD] at e <;> subst e <;> rfl
def keysD : List (D × D) → Option (List (Key × D))
  | [] => some []
  | (k, d) :: r => match keyD k, keysD r with
    | some k', some r' => some ((k', d) :: r')
    | _, _ => none
def wPairs : List (WE × WE) → Ev → Mt → (List (D × D) → Mt → Prop) → Prop
  | [], _, M, R => R [] M
  | (wk, wv) :: r, env, M, R => wk env M fun x M1 => wv env M1 fun y M2 => wPairs r env M2 fun ps M3 => R ((x, y) :: ps) M3
section
variable {X : Cx} {B : Bs} {K : PySem.W.Frag} {a b o i e value : Expr} {es : List Expr} {wa wb we wo wi wv : WE} {was : WA} {pos tpos pos' : Pos}
/-- {} -/
def wDict0 (m : Bool) : WE := fun env M R => if m then R (.cel M.length) (M ++ [.dct []]) else R (.dct []) M
theorem Lift.allocDM {P : Hp} {al : List Addr} {M : Mt} {env : Ev} {σ : L2.St} {H : Hp} {p : Addr} {R : D → Mt → Prop} {Q : VK} (L : Lift K B P al env σ H R Q) (rs : RS K B P al M env σ H) (hp : H p = none) {ds : List (Key × D)} {vs : List (Key × V)} (r : RepKs K P al ds vs)
    (q : R (.cel M.length) (M ++ [.dct ds])) : Q (.ref p) (upd H p (.dK vs)) := by
  obtain ⟨e, r0⟩ := rs.toRS0.allocM (m := .dct ds) (o := .dK vs) hp fun P' al' s h hn H' e => ⟨hn, vs, e, r.mono s h⟩
  refine L _ _ _ _ _ _ e (rs.step e r0) (.cel ?_) q
  rw [← rs.len, List.getElem?_append_right (Nat.le_refl _), Nat.sub_self]; rfl
theorem d_dict0 (m : Bool) : DE B X (.Dict [] [] pos) (wDict0 m) := by
  refine pe_dnewK.imp fun σ H Q => ?_
  rintro ⟨P, al, M, env, R, rs, hw, L⟩
  intro p hp
  cases m with
  | true => exact L.allocDM rs hp .nil hw
  | false => exact L.alloc rs hp (.dct upd_same .nil) hw
/-- the pairs of a display, while the new dict stands empty at p -/
theorem pairs_imp : ∀ (ws : List (WE × WE)) {P : Hp} {al : List Addr} {M : Mt} {env : Ev} {σ : L2.St} {H : Hp} {R : List (D × D) → Mt → Prop} {Q : List (V × V) → Hp → Prop}, RS K B P al M env σ H → wPairs ws env M R →
    (∀ ps M' vs H' P' al', Ext P al H P' al' H' → RS K B P' al' M' env σ H' → Paired (fun (x : D × D) (y : V × V) => Rep K P' al' x.1 y.1 ∧ Rep K P' al' x.2 y.2) ps vs → R ps M' → Q vs H') → tPairs (ws.map fun w => (tD K B w.1, tD K B w.2)) σ H Q
  | [], P, al, M, env, σ, H, R, Q, rs, hw, L => L _ _ _ _ _ _ Ext.refl rs .nil hw
  | (wk, wv) :: r, P, al, M, env, σ, H, R, Q, rs, hw, L => by
    refine ⟨P, al, M, env, _, rs, hw, fun d1 M1 v1 H1 P1 al1 e1 rs1 r1 hw1 => ⟨P1, al1, M1, env, _, rs1, hw1, fun d2 M2 v2 H2 P2 al2 e2 rs2 r2 hw2 => ?_⟩⟩
    exact pairs_imp r rs2 hw2 fun ps M3 vs H3 P3 al3 e3 rs3 r3 q =>
      L _ _ _ _ _ _ (e1.trans (e2.trans e3)) rs3 (.cons ⟨r1.mono (e2.trans e3).pp (e2.trans e3).pre, r2.mono e3.pp e3.pre⟩ r3) q
theorem keys_rep {P : Hp} {al : List Addr} : ∀ {ps : List (D × D)} {vs : List (V × V)} {ks : List (Key × D)}, Paired (fun (x : D × D) (y : V × V) => Rep K P al x.1 y.1 ∧ Rep K P al x.2 y.2) ps vs → keysD ps = some ks → ∃ kvs : List (Key × V), vs = kvs.map (fun kv => (kV kv.1, kv.2)) ∧ RepKs K P al ks kvs
  | _, _, _, .nil, e => by cases e; exact ⟨[], rfl, .nil⟩
  | _, _, _, .cons (a := (x, y)) (b := (v, u)) r t, e => by
    unfold keysD at e
    split at e
    · rename_i k ks h1 h2
      cases e
      obtain ⟨kvs, rfl, q⟩ := keys_rep t h2
      refine ⟨(k, u) :: kvs, ?_, .cons r.2 q⟩
      rw [List.map_cons]
      have := key_rep r.1 h1
      simp only at this
      rw [this]
    · cases e
def wDisp (ws : List (WE × WE)) : WE := fun env M R => wPairs ws env M fun ps M1 => match keysD ps with
  | some ks => Need (ks.length ≤ 15) ∧ R (.dct (mergeD [] ks)) M1
  | none => False
def wDispM (ws : List (WE × WE)) : WE := fun env M R => wPairs ws env M fun ps M1 => match keysD ps with
  | some ks => Need (ks.length ≤ 15) ∧ R (.cel M1.length) (M1 ++ [.dct (mergeD [] ks)])
  | none => False
theorem RepKs.len {P : Hp} {al : List Addr} : ∀ {ds : List (Key × D)} {vs : List (Key × V)}, RepKs K P al ds vs → ds.length = vs.length
  | _, _, .nil => rfl
  | _, _, .cons _ t => by simp [RepKs.len t]
theorem d_disp {keys : List (Option Expr)} {values : List Expr} {ws : List (WE × WE)} (h : PPs X pos keys values (ws.map fun w => (tD X.K B w.1, tD X.K B w.2))) (hall : keys.all (·.isSome) = true) (hl : keys.length = values.length) (h0 : keys ≠ []) (h15 : keys.length ≤ 15) : DE B X (.Dict keys values pos) (wDisp ws) := by
  refine (pe_disp h hall hl h0 h15).imp fun σ H Q => ?_
  rintro ⟨P, al, M, env, R, rs, hw, L⟩
  intro p hp
  obtain ⟨hb, na⟩ := rs.toRS0.fresh hp
  have np := rs.toRS0.free hp
  have rs1 : RS X.K B P al M env σ (upd H p (.dK [])) := ⟨rs.toRS0.priv np na hb _, rs.slen, rs.slot⟩
  refine pairs_imp ws rs1 hw fun ps M2 vs H2 P2 al2 e2 rs2 r2 q => ?_
  have hp2 : H2 p = some (.dK []) := e2.fr _ _ upd_same na
  have na2 : p ∉ al2 := fun m => by have := e2.new _ m na; rw [upd_same] at this; cases this
  have np2 : P2 p = none := e2.pn _ _ upd_same (fun _ u => (by cases u)) np na
  split at q
  · rename_i ks hk
    obtain ⟨kvs, rfl, rk⟩ := keys_rep r2 hk
    refine ⟨hp2, kvs, rfl, by rw [← rk.len]; exact q.1.out, ?_⟩
    have e3 : Ext P al H P2 al2 H2 := ⟨e2.pp, e2.pre, fun b x h n => e2.fr b x (by rw [upd_ne (ne_of_none h hp)]; exact h) n, fun b m n => by
        have := e2.new b m n
        by_cases hz : b = p
        · rw [hz]; exact hp
        · rw [upd_ne hz] at this; exact this, fun b x h h1 h2 h3 => e2.pn b x (by rw [upd_ne (ne_of_none h hp)]; exact h) h1 h2 h3⟩
    have e4 := (e3.priv hp (.dK (mergeK [] kvs))).pub hp np2 (.dK (mergeK [] kvs))
    have r4 := (rs2.toRS0.priv np2 na2 hb (.dK (mergeK [] kvs))).pub np2 na2 hb upd_same
    have sm : Same P2 (upd P2 p (.dK (mergeK [] kvs))) := fun b x h => by rw [upd_ne (ne_of_none h np2)]; exact h
    exact L _ _ _ _ _ _ e4 (rs.step e4 r4) (.dct upd_same ((RepKs.merge rk .nil).mono sm (List.prefix_refl _))) q.2
  · exact q.elim
/-- d[k] -/
def oDGet : WO2 := fun x y M R => match viewD M x, keyD y with
  | .dct ks, some k => match valD ks k with
    | some d => R d M
    | none => False
  | _, _ => False
theorem d_dget (hu : X.A.units + 1 < cLine) (ho : DE B X o wo) (hi : DE B X i wi) (hs : NoSl i := by intro _ _; rfl) : DE B X (.Subscript o i pos) (wOp oDGet wo wi) := by
  refine (pe_dget hu ho hi hs).imp fun σ H Q => ?_
  rintro ⟨P, al, M, env, R, rs, hw, L⟩
  refine ⟨P, al, M, env, _, rs, hw, fun d1 M1 v1 H1 P1 al1 e1 rs1 r1 hw1 => ⟨P1, al1, M1, env, _, rs1, hw1, fun d2 M2 v2 H2 P2 al2 e2 rs2 r2 q => ?_⟩⟩
  unfold oDGet at q
  split at q
  · rename_i ks k h1 h2
    split at q
    · rename_i d hd
      obtain ⟨a, xs, rfl, g1, g2⟩ := view_dct rs2.toRS0 (r1.mono e2.pp e2.pre) h1
      obtain ⟨v, g3, g4⟩ := (g2.val k).1 d hd
      refine ⟨a, v, rfl, .inl ⟨xs, k, .inl g1, key_rep r2 h2, g3.symm⟩, L _ _ _ _ _ _ (e1.trans e2) rs2 g4 q⟩
    · exact q.elim
  · exact q.elim
/-- k in d, k not in d -/
def oDIn (neg : Bool) : WO2 := fun x y M R => match viewD M y, keyD x with
  | .dct ks, some k => R (.bl (if neg then !(valD ks k).isSome else (valD ks k).isSome)) M
  | _, _ => False
theorem some_iff {K : PySem.W.Frag} {P : Hp} {al : List Addr} {ks : List (Key × D)} {vs : List (Key × V)} (r : RepKs K P al ks vs) (k : Key) : (valV vs k).isSome = (valD ks k).isSome := by
  cases h : valD ks k with
  | none => rw [(r.val k).2 h] <;> rfl
  | some d => obtain ⟨v, g, _⟩ := (r.val k).1 d h; rw [g] <;> rfl
theorem dc_in (hu : X.A.units + 1 < cLine) (hi : DE B X i wi) (ho : DE B X o wo) : PC X .In i o (fun σ H Q => tD X.K B (wOp (oDIn false) wi wo) σ H Q) := by
  refine ⟨fun pins s σ H Q I h => (pc_din hu hi ho).run pins s σ H Q I ?_⟩
  obtain ⟨P, al, M, env, R, rs, hw, L⟩ := h
  refine ⟨P, al, M, env, _, rs, hw, fun d1 M1 v1 H1 P1 al1 e1 rs1 r1 hw1 => ⟨P1, al1, M1, env, _, rs1, hw1, fun d2 M2 v2 H2 P2 al2 e2 rs2 r2 q => ?_⟩⟩
  unfold oDIn at q
  split at q
  · rename_i ks k h1 h2
    obtain ⟨a, xs, rfl, g1, g2⟩ := view_dct rs2.toRS0 r2 h1
    refine ⟨a, _, rfl, .inl ⟨xs, k, .inl g1, key_rep r1 h2, rfl⟩, ?_⟩
    rw [some_iff g2 k]
    exact L _ _ _ _ _ _ (e1.trans e2) rs2 (.bl _) q
  · exact q.elim
theorem dc_notin (hu : X.A.units + 1 < cLine) (hi : DE B X i wi) (ho : DE B X o wo) : PC X .NotIn i o (fun σ H Q => tD X.K B (wOp (oDIn true) wi wo) σ H Q) := by
  refine ⟨fun pins s σ H Q I h => (pc_dnotin hu hi ho).run pins s σ H Q I ?_⟩
  obtain ⟨P, al, M, env, R, rs, hw, L⟩ := h
  refine ⟨P, al, M, env, _, rs, hw, fun d1 M1 v1 H1 P1 al1 e1 rs1 r1 hw1 => ⟨P1, al1, M1, env, _, rs1, hw1, fun d2 M2 v2 H2 P2 al2 e2 rs2 r2 q => ?_⟩⟩
  unfold oDIn at q
  split at q
  · rename_i ks k h1 h2
    obtain ⟨a, xs, rfl, g1, g2⟩ := view_dct rs2.toRS0 r2 h1
    refine ⟨a, _, rfl, .inl ⟨xs, k, .inl g1, key_rep r1 h2, rfl⟩, ?_⟩
    rw [some_iff g2 k]
    exact L _ _ _ _ _ _ (e1.trans e2) rs2 (.bl _) q
  · exact q.elim
theorem d_din (hu : X.A.units + 1 < cLine) (hi : DE B X i wi) (ho : DE B X o wo) (hm : behindInMarks .In o = false := by rfl) : DE B X (.Compare i [.In] [o] pos) (wOp (oDIn false) wi wo) := pe_cmp (dc_in hu hi ho) hm
theorem d_dnotin (hu : X.A.units + 1 < cLine) (hi : DE B X i wi) (ho : DE B X o wo) (hm : behindInMarks .NotIn o = false := by rfl) : DE B X (.Compare i [.NotIn] [o] pos) (wOp (oDIn true) wi wo) := pe_cmp (dc_notin hu hi ho) hm
/-- d[k] = v, d a dict that changes -/
def wDPut (wo wi wv : WE) : WS := fun k env M => wv env M fun d M1 => wo env M1 fun x M2 => wi env M2 fun y M3 => match x, keyD y with
  | .cel n, some j => match M3[n]? with
    | some (.dct ks) => Need (ks.length < sizeLine) ∧ k.nx env (M3.set n (.dct (putD ks j d)))
    | _ => False
  | _, _ => False
theorem d_dput (hu : X.A.units + 1 < cLine) (ho : DE B X o wo) (hi : DE B X i wi) (hv : DE B X value wv) (hs : swapsWith value (some (.Subscript o i pos')) pos.line X.env = pure false := by rfl) : DS B X (.Assign [.Subscript o i pos'] value pos) (wDPut wo wi wv) := by
  refine (ps_dput hu ho hi hv hs).imp fun D σ H => ?_
  rintro ⟨P, al, M, env, k, rs, hw, L⟩
  refine ⟨P, al, M, env, _, rs, hw, fun d1 M1 v1 H1 P1 al1 e1 rs1 r1 hw1 => ⟨P1, al1, M1, env, _, rs1, hw1, fun d2 M2 v2 H2 P2 al2 e2 rs2 r2 hw2 => ⟨P2, al2, M2, env, _, rs2, hw2, fun d3 M3 v3 H3 P3 al3 e3 rs3 r3 q => ?_⟩⟩⟩
  split at q
  · rename_i n j h1
    split at q
    · rename_i ks hm
      obtain ⟨a, rfl, ha, _, xs, g1, g2⟩ := cell_at rs3.toRS0 hm (r2.mono e3.pp e3.pre)
      have r1' := r1.mono (e2.trans e3).pp (e2.trans e3).pre
      obtain ⟨e4, r4⟩ := rs3.toRS0.change (o' := .dK (putK xs j v1)) (m' := .dct (putD ks j d1)) ha hm rfl fun H' hH => ⟨(live_cell rfl (rs3.cell n a _ ha hm)).1, _, hH, g2.put r1' j⟩
      refine ⟨a, _, rfl, .inl ⟨xs, j, g1, key_rep r3 h1, by rw [← g2.len]; exact q.1.out, rfl⟩, ?_⟩
      exact L.nx _ _ _ _ _ _ (e1.trans (e2.trans (e3.trans e4))) (rs3.step e4 r4) q.2
    · exact q.elim
  · exact q.elim

/-! ### methods of built-in types -/
def tyM (T : String) (d : D) : Prop := match d with
  | .str _ => T = "str"
  | .lst _ => T = "list"
  | .rol _ => T = "list"
  | .dct _ => T = "dict"
  | _ => False
abbrev WM := D → List D → Mt → (D → Mt → Prop) → Prop
def wBM (T : String) (m : WM) (wo : WE) (was : WA) : WE := fun env M R => wo env M fun x M1 => Need (tyM T (viewD M1 x)) ∧ was env M1 fun ds M2 => m x ds M2 R
def MethD (K : PySem.W.Frag) (B : Bs) (r : V → List V → Hp → VK → Prop) (m : WM) : Prop := ∀ P al M env σ H x dx vs ds R Q, RS K B P al M env σ H → Rep K P al dx x → Reps K P al ds vs → m dx ds M R → Lift K B P al env σ H R Q → r x vs H Q
theorem tyM_ok {P : Hp} {al : List Addr} {M : Mt} {H : Hp} {d : D} {v : V} {T : String} (rs : RS0 K B P al M H) (r : Rep K P al d v) (e : tyM T (viewD M d)) : tyV K T v H := by
  unfold tyM at e
  split at e
  · rename_i h; cases view_str r h; exact e
  · rename_i h; obtain ⟨a, xs, rfl, h1, _⟩ := view_lst rs r h; exact .inl ⟨e, xs, .inl (.inl h1)⟩
  · rename_i h; obtain ⟨a, xs, rfl, h1, _⟩ := view_rol rs r h; exact .inl ⟨e, xs, h1⟩
  · rename_i h; obtain ⟨a, xs, rfl, h1, _⟩ := view_dct rs r h; exact .inr (.inr (.inl ⟨e, .inl ⟨xs, h1⟩⟩))
  · exact e.elim
theorem bm_imp {r : V → List V → Hp → VK → Prop} {m : WM} {T : String} (h : MethD K B r m) (σ : L2.St) (H : Hp) (Q : VK) : tD K B (wBM T m wo was) σ H Q → tBM K T r (tD K B wo) (tDA K B was) σ H Q := by
  rintro ⟨P, al, M, env, R, rs, hw, L⟩
  exact ⟨P, al, M, env, _, rs, hw, fun d1 M1 v1 H1 P1 al1 e1 rs1 r1 hw1 => ⟨tyM_ok rs1.toRS0 r1 hw1.1.out, P1, al1, M1, env, _, rs1, hw1.2, fun ds M2 vs H2 P2 al2 e2 rs2 r2 q =>
    h _ _ _ _ _ _ _ _ _ _ _ _ rs2 (r1.mono e2.pp e2.pre) r2 q (L.after (e1.trans e2))⟩⟩
theorem d_bm {T id : String} {name : Str} {apos cpos : Pos} {r : V → List V → Hp → VK → Prop} {m : WM} (pa : PlainAttrs T) (slot : Slot T name id) (hty : typeOf (.builtin id) = pure (.type "method_descriptor")) (hm : MtR X id r) (h : MethD X.K B r m) (ho : DE B X o wo) (ha : DA B X (e :: es) was)
    (hbase : attributeBase o name X.env (eval o X.env) = eval o X.env := by rfl)
    (hfew : ((backTo cpos (starEach (e :: es) X.env)).all (fun x => !x.1) && (backToKw cpos (keywordEach [] X.env)).all (fun x => x.1.isSome)
      && decide ((e :: es).length + ([] : List Keyword).length + (if ([] : List Keyword).isEmpty then 0 else 1) < 30)) = true := by rfl)
    (hline : (apos.endLine == cpos.line) = true := by rfl) (hs : starEach (e :: es) X.env = (false, eval e X.env) :: starEach es X.env := by rfl) (hplain : (backTo cpos (starEach es X.env)).any (·.1) = false := by rfl) :
    DE B X (.Call (.Attribute o name apos) (e :: es) [] cpos) (wBM T m wo was) := (pe_bm pa slot hty hm ho ha hbase hfew hline hs hplain).imp (bm_imp h)
theorem d_bm0 {T id : String} {name : Str} {apos cpos : Pos} {r : V → List V → Hp → VK → Prop} {m : WM} (pa : PlainAttrs T) (slot : Slot T name id) (hty : typeOf (.builtin id) = pure (.type "method_descriptor")) (hm : MtR X id r) (h : MethD X.K B r m) (ho : DE B X o wo)
    (hbase : attributeBase o name X.env (eval o X.env) = eval o X.env := by rfl) (hline : (apos.endLine == cpos.line) = true := by rfl) :
    DE B X (.Call (.Attribute o name apos) [] [] cpos) (wBM T m wo wNil) := by
  refine (pe_bm0 pa slot hty hm ho hbase hline).imp fun σ H Q hh => ?_
  obtain ⟨P, al, M, env, R, rs, hw, L⟩ := bm_imp (was := wNil) h σ H Q hh
  refine ⟨P, al, M, env, R, rs, hw, fun d1 M1 v1 H1 P1 al1 e1 rs1 r1 q => ?_⟩
  obtain ⟨q1, P2, al2, M2, env2, R2, rs2, hw2, L2⟩ := L d1 M1 v1 H1 P1 al1 e1 rs1 r1 q
  exact ⟨q1, L2 _ _ _ _ _ _ Ext.refl rs2 .nil hw2⟩
def mAppend : WM := fun x ds M R => match x, ds with
  | .cel n, [d] => match M[n]? with
    | some (.lst l) => Need (l.length < sizeLine) ∧ R .non (M.set n (.lst (l ++ [d])))
    | _ => False
  | _, _ => False
theorem mAppend_ok : MethD K B rAppend mAppend := by
  intro P al M env σ H x dx vs ds R Q rs r1 r2 h L
  unfold mAppend at h
  split at h
  · rename_i n d
    cases r2 with
    | cons q1 t =>
      cases t
      split at h
      · rename_i l hm
        obtain ⟨a, rfl, ha, _, xs, g1, g2⟩ := cell_at rs.toRS0 hm r1
        obtain ⟨e4, r4⟩ := rs.toRS0.change (o' := .lst (xs ++ [_])) (m' := .lst (l ++ [d])) ha hm rfl fun H' hH => ⟨(live_cell rfl (rs.cell n a _ ha hm)).1, _, hH, g2.append (.cons q1 .nil)⟩
        exact ⟨a, xs, _, rfl, rfl, g1, by rw [← g2.length]; exact h.1.out, L _ _ _ _ _ _ e4 (rs.step e4 r4) .non h.2⟩
      · exact h.elim
  · exact h.elim
def mPopAt : WM := fun x ds M R => match x, ds with
  | .cel n, [.int i] => match M[n]? with
    | some (.lst l) => Need (-(2 ^ 63) ≤ i ∧ i < 2 ^ 63) ∧ (match seqIndex? i l.length with
      | some k => match l[k]? with
        | some d => R d (M.set n (.lst (l.eraseIdx k)))
        | none => False
      | none => False)
    | _ => False
  | _, _ => False
theorem mPopAt_ok : MethD K B rPopAt mPopAt := by
  intro P al M env σ H x dx vs ds R Q rs r1 r2 h L
  unfold mPopAt at h
  split at h
  · rename_i n i
    cases r2 with
    | cons q1 t =>
      cases t; cases q1
      split at h
      · rename_i l hm
        obtain ⟨⟨h1, h2⟩, h3⟩ := h
        split at h3
        · rename_i k hk
          split at h3
          · rename_i d hd
            obtain ⟨a, rfl, ha, _, xs, g1, g2⟩ := cell_at rs.toRS0 hm r1
            obtain ⟨v, g3, g4⟩ := g2.get hd
            obtain ⟨e4, r4⟩ := rs.toRS0.change (o' := .lst (xs.eraseIdx k)) (m' := .lst (l.eraseIdx k)) ha hm rfl fun H' hH => ⟨(live_cell rfl (rs.cell n a _ ha hm)).1, _, hH, g2.erase k⟩
            exact ⟨a, xs, i, k, v, rfl, rfl, g1, h1, h2, by rw [← g2.length]; exact hk, g3, L _ _ _ _ _ _ e4 (rs.step e4 r4) (g4.mono e4.pp e4.pre) h3⟩
          · exact h3.elim
        · exact h3.elim
      · exact h.elim
  · exact h.elim

/-! ### names of the module -/
theorem d_gint {x : Str} {n : Int} {t : Tok} (hm : X.mg x = some (.int n t)) (hg : Gl X x := by rfl) (hd : (x == ("__debug__" : Str)) = false := by decide) : DE B X (.Name x pos) (wC (.int n)) := d_C (v := .int n) (pe_glob hg hm ⟨_, rfl⟩ hd) fun _ _ => .int n
theorem d_gstr {x : Str} {s : Str} {t : Tok} (hm : X.mg x = some (.str s t)) (hg : Gl X x := by rfl) (hd : (x == ("__debug__" : Str)) = false := by decide) : DE B X (.Name x pos) (wC (.str s)) := d_C (v := .str s) (pe_glob hg hm ⟨_, rfl⟩ hd) fun _ _ => .str s
theorem d_gadr {x : Str} {a : Addr} (hm : X.mg x = some (.ref a)) (hg : Gl X x := by rfl) (hd : (x == ("__debug__" : Str)) = false := by decide) : DE B X (.Name x pos) (wC (.adr a)) := d_C (v := .ref a) (pe_glob hg hm rfl hd) fun _ _ => .adr a
theorem d_ty {x : Str} {T : String} (hm : X.mg x = none) (hv : bootBuiltins x = some (.type T)) (hg : Gl X x := by rfl) (hn : x ≠ "__name__" := by decide) (hd : (x == ("__debug__" : Str)) = false := by decide) : DE B X (.Name x pos) (wC (.ty T)) := d_C (v := .ty T) (pe_bltn hg hm hv rfl hn hd) fun _ _ => .ty T
/-- a tuple of texts and numbers that the top made -/
def constD : Value → Option D
  | .none => some .non
  | .bool b => some (.bl b)
  | .int i _ => some (.int i)
  | .str s _ => some (.str s)
  | _ => none
def constDs : List Value → Option (List D)
  | [] => some []
  | v :: r => match constD v, constDs r with
    | some d, some ds => some (d :: ds)
    | _, _ => none
theorem const_rep : ∀ {us : List Value} {ds : List D}, constDs us = some ds → ∃ vs, Vals vs us ∧ ∀ P al, Reps K P al ds vs
  | [], ds, e => by cases e; exact ⟨[], .nil, fun _ _ => .nil⟩
  | v :: r, ds, e => by
    unfold constDs at e
    split at e
    · rename_i d ds' h1 h2
      cases e
      obtain ⟨vs, h3, h4⟩ := const_rep h2
      cases v <;> simp [constD] at h1 <;> subst h1
      · exact ⟨.non :: vs, .cons rfl h3, fun P al => .cons .non (h4 P al)⟩
      · exact ⟨.bl _ :: vs, .cons rfl h3, fun P al => .cons (.bl _) (h4 P al)⟩
      · exact ⟨.int _ :: vs, .cons ⟨_, rfl⟩ h3, fun P al => .cons (.int _) (h4 P al)⟩
      · exact ⟨.str _ :: vs, .cons ⟨_, rfl⟩ h3, fun P al => .cons (.str _) (h4 P al)⟩
    · cases e
theorem d_gtup {x : Str} {a : Addr} {o : Obj} {its : Array Value} {n : Nat} {ds : List D} (hm : X.mg x = some (.ref a)) (hk : X.K.lookup a = some o) (hc : o.cls = .type "tuple") (hd : o.data = .seq its n) (hz : its.size ≤ sizeLine) (he : constDs its.toList = some ds)
    (hg : Gl X x := by rfl) (hdb : (x == ("__debug__" : Str)) = false := by decide) : DE B X (.Name x pos) (wC (.tup ds)) := by
  obtain ⟨vs, h1, h2⟩ := const_rep (K := X.K) he
  exact d_C (v := .ref a) (pe_glob hg hm rfl hdb) fun P al => .tup (.inr ⟨o, its, n, hk, hc, hd, hz, h1⟩) (h2 P al)
end
end L3

namespace L3
open PySem PySem.Spec PyProof.Rows L2
/-! ### plain facts for the ends of a step -/
theorem cdivw {i j : Int} (h : 0 < j) (h2 : j < 1073741824) : CDivW i j :=
  wide_div (b := 30) h (by omega) (by decide) (by decide)
theorem cpow {i j : Int} (h : 0 ≤ j) (h2 : j ≤ 1000000) (h3 : -18446744073709551616 < i) (h4 : i < 18446744073709551616) : CPow i j := ⟨h, h2, by omega⟩
theorem cmul_l {i j : Int} (h3 : -18446744073709551616 < i) (h4 : i < 18446744073709551616) : CMulU i j := .inl (.inl ⟨by omega, by omega⟩)
theorem cmul_r {i j : Int} (h3 : -18446744073709551616 < j) (h4 : j < 18446744073709551616) : CMulU i j := .inl (.inr ⟨by omega, by omega⟩)
theorem toPs_map {α : Type} {f : α → D} {g : α → PyData} (h : ∀ x, toP (f x) = some (g x)) : ∀ l : List α, toPs (l.map f) = some (l.map g)
  | [] => rfl
  | x :: r => by simp only [List.map_cons, toPs, h, toPs_map h r]
theorem canLay_map {α : Type} {g : α → PyData} : ∀ {l : List α}, (∀ x ∈ l, PyData.canLay0 (g x) = true) → PyData.canLayAll0 (l.map g) = true
  | [], _ => rfl
  | x :: r, h => by
    rw [List.map_cons]
    simp only [PyData.canLayAll0, h x List.mem_cons_self, canLay_map fun y hy => h y (List.mem_cons_of_mem _ hy), Bool.and_self]
theorem depth_map {α : Type} {g : α → PyData} {n : Nat} : ∀ {l : List α}, (∀ x ∈ l, PyData.depth (g x) ≤ n) → PyData.depthAll (l.map g) ≤ n
  | [], _ => Nat.zero_le _
  | x :: r, h => by
    rw [List.map_cons]
    simp only [PyData.depthAll]
    exact Nat.max_le.mpr ⟨h x List.mem_cons_self, depth_map fun y hy => h y (List.mem_cons_of_mem _ hy)⟩
theorem shaped_map {α : Type} {g : α → PyData} {l : List α} (h : ∀ x ∈ l, PyData.canLay0 (g x) = true) (h2 : ∀ x ∈ l, PyData.depth (g x) ≤ 63) : SeqAt.shaped (.list (l.map g)) = true := by
  unfold SeqAt.shaped
  simp only [PyData.canLay0, canLay_map h, PyData.depth, Bool.true_and]
  have := depth_map h2
  exact decide_eq_true (by omega)
theorem plain_ints (l : List Int) : plainOk (l.map D.int) := ⟨_, toPs_map (g := .int) (fun _ => rfl) l, shaped_map (fun _ _ => rfl) fun _ _ => Nat.zero_le _⟩
theorem plain_strs (l : List Str) (h : ∀ s ∈ l, PyData.strOk s = true) : plainOk (l.map D.str) := ⟨_, toPs_map (g := .str) (fun _ => rfl) l, shaped_map (fun s hs => by simp only [PyData.canLay0]; exact h s hs) fun _ _ => Nat.zero_le _⟩
theorem line16 : (sizeLine : Nat) = 16777216 := sizeLine_eq
theorem atI_in {α : Type} {xs : List α} {i : Int} (h : 0 ≤ i) (h2 : i < xs.length) : L2.atI xs i = xs[i.toNat]? := by
  have e : ixN xs.length i = some i.toNat := by unfold ixN; rw [if_pos h, if_pos h2]
  unfold L2.atI; rw [e]; rfl
/-! ### loops and comprehensions by what they do -/
theorem bnd_mono {is : List Nat} {d : D} {env : Ev} {k k' : Ev → Prop} (h : ∀ e, k e → k' e) (q : bnd is d env k) : bnd is d env k' := by
  rcases is with _ | ⟨i, _ | ⟨j, _ | ⟨l, r⟩⟩⟩
  · exact False.elim q
  · exact h _ q
  · cases d with
    | tup l =>
      rcases l with _ | ⟨x, _ | ⟨y, _ | ⟨z, r⟩⟩⟩
      · exact False.elim q
      · exact False.elim q
      · exact h _ q
      · exact False.elim q
    | _ => exact False.elim q
  · exact False.elim q
/-- a comprehension whose element and test are functions of the item -/
theorem lcL_fun {is vs : List Nat} {t : WTs} {we : WE} {env : Ev} {M : Mt} (p : D → Bool) (f : D → D) : ∀ (ds acc : List D) (R : List D → Mt → Prop), acc.length + ds.length ≤ sizeLine →
    (∀ d ∈ ds, ∀ (A : D → Mt → Prop) (C : Mt → Prop), (p d = true → A (f d) M) → (p d = false → C M) → bnd is d (wipeE env vs) fun env1 => t env1 M fun b M2 => ifB b (we env1 M2 A) (C M2)) →
    R (acc ++ (ds.filter p).map f) M → lcL is t we vs env ds acc M R
  | [], acc, R, _, _, h => by
    show R acc M
    simpa using h
  | d :: r, acc, R, hl, hs, h => by
    refine hs d List.mem_cons_self _ _ (fun hp => ⟨⟨by simp at hl; omega⟩, ?_⟩) fun hp => ?_
    · refine lcL_fun p f r (acc ++ [f d]) R (by simp at hl ⊢; omega) (fun x hx => hs x (List.mem_cons_of_mem _ hx)) ?_
      rw [List.filter_cons_of_pos hp, List.map_cons] at h
      simpa using h
    · refine lcL_fun p f r acc R (by simp at hl ⊢; omega) (fun x hx => hs x (List.mem_cons_of_mem _ hx)) ?_
      rw [List.filter_cons_of_neg (by simp [hp])] at h
      exact h
/-- without a test -/
theorem lcL_map {is vs : List Nat} {we : WE} {env : Ev} {M : Mt} (f : D → D) (ds : List D) (R : List D → Mt → Prop) (hl : ds.length ≤ sizeLine)
    (hs : ∀ d ∈ ds, ∀ (A : D → Mt → Prop), A (f d) M → bnd is d (wipeE env vs) fun env1 => we env1 M A) (h : R (ds.map f) M) : lcL is wYes we vs env ds [] M R := by
  refine lcL_fun (fun _ => true) f ds [] R (by simpa using hl) (fun d hd A C hA _ => ?_) (by rw [List.filter_eq_self.mpr fun _ _ => rfl]; exact h)
  exact bnd_mono (fun e q => ⟨fun _ => q, fun z => by cases z⟩) (hs d hd A (hA rfl))
theorem boolsD_map {α : Type} {f : α → D} {g : α → Bool} (h : ∀ x, f x = .bl (g x)) : ∀ l : List α, boolsD (l.map f) = some (l.map g)
  | [] => rfl
  | x :: r => by simp only [List.map_cons, h, boolsD, boolsD_map h r, Option.map_some]
theorem mem_chars {s : Str} {d : D} (h : d ∈ chars s) : ∃ c, c ∈ s.cps.toList ∧ d = .str ⟨#[c]⟩ := by
  obtain ⟨c, h1, h2⟩ := List.mem_map.mp h
  exact ⟨c, h1, h2.symm⟩
theorem chars_map (s : Str) (f : D → D) : (chars s).map f = s.cps.toList.map fun c => f (.str ⟨#[c]⟩) := by
  unfold chars; rw [List.map_map]; rfl
theorem chars_len (s : Str) : (chars s).length = s.length := by
  unfold chars; rw [List.length_map, Array.length_toList]; rfl
/-- a for loop by an invariant over the turn -/
theorem forL_inv {g : WG} {b : WS} {k : DEnds} (I : Nat → Ev → Mt → Prop) {ds : List D} {env : Ev} {M : Mt} (h0 : I 0 env M)
    (hs : ∀ (i : Nat) (d : D) (env : Ev) (M : Mt), ds[i]? = some d → I i env M → g d env M fun env1 M1 => b { nx := I (i + 1), ct := I (i + 1), bk := k.nx, rt := k.rt } env1 M1)
    (hd : ∀ env M, I ds.length env M → k.nx env M) : forL g b k ds env M := by
  have key : ∀ (n i : Nat), i + n = ds.length → ∀ env M, I i env M → forL g b k (ds.drop i) env M := by
    intro n
    induction n with
    | zero =>
      intro i hi env M h
      rw [List.drop_eq_nil_of_le (by omega)]
      have : i = ds.length := by omega
      subst this
      exact hd _ _ h
    | succ n ih =>
      intro i hi env M h
      have hlt : i < ds.length := by omega
      rw [List.drop_eq_getElem_cons hlt]
      exact ⟨I (i + 1), fun env' M' h' => ih (i + 1) (by omega) env' M' h', hs i _ env M (List.getElem?_eq_getElem hlt) h⟩
  have := key ds.length 0 (by omega) env M h0
  simpa using this
/-- the law's call: the script is a list that is read alone -/
theorem law_sp {K : PySem.W.Frag} {H : Hp} {a : Addr} {ns : List Int} {sp : DSp} {E : XK} (hsp : ∀ ns : List Int, ns.length ≤ 63 → ∀ R RX, (∀ M, R (.bl true) M) → sp [.rol (ns.map D.int)] [] R RX) (hl : ns.length ≤ 63) (hS : SqL K H a (ns.map V.int)) :
    toSp K sp [.ref a] H (fun v _ => v = .bl true) E := by
  have hr : ∀ l : List Int, Reps K H [] (l.map D.int) (l.map V.int) := fun l => by
    induction l with
    | nil => exact .nil
    | cons x r ih => exact .cons (.int x) ih
  refine ⟨H, [], [], _, fun d _ => d = .bl true, RX0, ⟨Ext.refl, Same.refl _, rfl, fun i a m h => by simp at h, fun i j a m n h => by simp at h, fun a h => by cases h⟩, .cons (.rol hS (hr ns)) .nil, hsp ns hl _ _ fun _ => rfl, fun d M' v H' P' al' e r0 r hd => ?_, fun _ _ _ _ _ _ _ _ _ _ z => z.elim⟩
  subst hd; cases r; rfl
end L3

namespace K02
open PySem PySem.Spec PyProof.Rows L2 L3
local macro_rules | `(tactic| walk_at "hyp") => `(tactic| try simp only [decide_eq_true_eq, decide_eq_false_iff_not, Bool.not_eq_true', Bool.not_eq_false', Int.not_lt, Int.not_le, Bool.false_eq_true, if_false, if_true, reduceIte, strIn_one] at *)
local macro_rules | `(tactic| walk_at "leaf") => `(tactic| (refine Need.mk ?_; (try dsimp only); first | omega | decide | (decide +kernel) | exact plain_ints _ | exact cdivw (by omega) (by omega) | exact cpow (by omega) (by omega) (by omega) (by omega) | exact cmul_l (by omega) (by omega) | exact cmul_r (by omega) (by omega) | (rw [line16]; omega) | (rw [line16]; simp only [List.length_cons, List.length_nil, List.length_map, List.length_append]; omega)))
local macro_rules | `(tactic| walk_at "call") => `(tactic| fail)
local macro_rules | `(tactic| walk_at "go") => `(tactic| ((conv => whnf); first
  | (refine And.intro ?_ ?_ <;> walk_at "go")
  | (intro h; first | (exact absurd h (by decide)) | (walk_at "hyp"; first | (exfalso; omega) | (exact absurd rfl ‹_›) | walk_at "go"))
  | walk_at "leaf"
  | walk_at "call"
  | (refine Exists.intro _ (And.intro (fun _ _ h => h) ?_); walk_at "go")
  | skip))
/-! texts -/
def LET : Str := "abcdefghijklmnopqrstuvwxyz"
def DIG : Str := "0123456789"
def RES : List V := [.str "to", .str "if", .str "tag", .str "all", .str "none"]
/-- a name, as the document tells it -/
def nmS (s : Str) : Bool := decide (1 ≤ (s.length : Int)) && decide ((s.length : Int) ≤ 8) && !inV (.str s) RES && (match s.cps.toList with
  | c :: _ => decide (c ∈ LET.cps.toList)
  | [] => false) && s.cps.toList.all fun c => decide (c ∈ LET.cps.toList) || decide (c ∈ DIG.cps.toList)
def nm : D → Bool
  | .str s => nmS s
  | _ => false
/-- the values of the law: plain ones, texts of good signs -/
def Val (d : D) : Prop := match d with
  | .str s => s.length ≤ 100000 ∧ ∀ c ∈ s.cps.toList, c < 128
  | .non => True
  | .bl _ => True
  | .int _ => True
  | .tup _ => True
  | .lst _ => True
  | .dct _ => True
  | _ => False
def Asc (s : Str) : Prop := ∀ c ∈ s.cps.toList, c < 128
theorem app_cps (s t : Str) : (s ++ t).cps.toList = s.cps.toList ++ t.cps.toList := Array.toList_append
theorem app_len (s t : Str) : (s ++ t).length = s.length + t.length := Array.size_append
theorem asc_app {s t : Str} (h : Asc s) (h' : Asc t) : Asc (s ++ t) := fun c hc => by
  rw [app_cps] at hc
  rcases List.mem_append.mp hc with z | z
  · exact h c z
  · exact h' c z
theorem asc_cut {s : Str} (h : Asc s) (lo hi : Option Int) : Asc (cutS s lo hi) := fun c hc => by
  unfold cutS at hc
  exact h c (List.mem_of_mem_drop (List.mem_of_mem_take (by simpa using hc)))
theorem cut_len (s : Str) (lo hi : Option Int) : (cutS s lo hi).length ≤ s.length := by
  show (cutS s lo hi).cps.size ≤ s.cps.size
  unfold cutS
  simp only [List.size_toArray, List.length_take, List.length_drop, Array.length_toList]
  omega
theorem asc_one {c : Nat} (h : c < 128) : Asc ⟨#[c]⟩ := fun x hx => by
  have : x = c := by simpa using hx
  omega
theorem one_len (c : Nat) : (⟨#[c]⟩ : Str).length = 1 := rfl
theorem str_at {s : Str} {i : Int} (h : 0 ≤ i) (h2 : i < s.length) : ∃ c, L2.atI s.cps.toList i = some c ∧ c ∈ s.cps.toList := by
  have h3 : i < s.cps.toList.length := by rw [Array.length_toList]; exact h2
  rw [atI_in h h3, List.getElem?_eq_getElem (by omega)]
  exact ⟨_, rfl, List.getElem_mem _⟩
/-! the pen -/
def pen (cs : List Int) (at_ rest : Int) : D := .lst [.lst (cs.map D.int), .int at_, .int rest]
/-! is_name: 0 value, 1 sign -/
abbrev p_is_name : List Str := ["value"]
@[irreducible] def sp_is_name : DSp := fun ds M R _ => ∃ d, ds = [d] ∧ Val d ∧ R (.bl (nm d)) M
theorem len_is_name : ∀ ds M R RX, sp_is_name ds M R RX → ds.length = p_is_name.length := by
  unfold sp_is_name; rintro ds M R RX ⟨d, rfl, _⟩; rfl
def w_is_name : WS :=
  (wSeq (wIfS (wOrT (wNotT (wTru (wCB cIsi (wCons (wVar 0) (wCons (wC (.ty "str")) wNil))))) (wOrT (wNotT (wTest (wChain oLe oLe (wC (.int 1)) (wCB cLen (wCons (wVar 0) wNil)) (wC (.int 8))))) (wTest (wOp (oIn false) (wVar 0) (wC (.tup [.str "to", .str "if", .str "tag", .str "all", .str "none"])))))) (wRet (wC (.bl false))) wSkip)
    (wRet (wAndV (wOp (oIn false) (wOp oIx (wVar 0) (wC (.int 0))) (wC (.str "abcdefghijklmnopqrstuvwxyz"))) (wCB (cAll fun bs => bs.all id) (wCons (wLc (wIt (wVar 0)) [1] wYes (wOrV (wOp (oIn false) (wVar 1) (wC (.str "abcdefghijklmnopqrstuvwxyz"))) (wOp (oIn false) (wVar 1) (wC (.str "0123456789")))) [1]) wNil)))))
theorem wp_is_name : ∀ ds M R RX, sp_is_name ds M R RX → w_is_name (fnEnds M.length R) (startE 2 ds) M := by
  unfold sp_is_name; rintro ds M R RX ⟨d, rfl, hv, k⟩
  cases d with
  | str s =>
    obtain ⟨hl, hc⟩ := hv
    have cut : ∀ b : Bool, nm (.str s) = b → retF M.length R (.bl b) M := fun b e => .keep (by rw [← e]; exact k)
    walk_at "go"
    · rename_i h1 h2
      refine cut _ ?_
      have : ¬ (s.length : Int) ≤ 8 := by omega
      simp [nm, nmS, this]
    · rename_i h1 h2 h3
      refine cut _ ?_
      have : inV (.str s) RES = true := h3
      simp [nm, nmS, this]
    · rename_i h1 h2 h3
      obtain ⟨c, cs, e⟩ : ∃ c cs, s.cps.toList = c :: cs := by
        cases e : s.cps.toList with
        | nil =>
          have : s.length = 0 := by show s.cps.size = 0; rw [← Array.length_toList, e]; rfl
          omega
        | cons c cs => exact ⟨c, cs, rfl⟩
      have e0 : L2.atI s.cps.toList 0 = some c := by rw [e]; exact atI_nat (j := 0) rfl
      rw [e0]
      walk_at "go"
      · rename_i h4
        refine lcL_map (fun d => match d with | .str x => .bl (strIn x LET || strIn x DIG) | _ => .non) _ _ (by rw [chars_len, line16]; omega) (fun d hd A hA => ?_) ?_
        · obtain ⟨c, _, rfl⟩ := mem_chars hd
          walk_at "go"
          · rename_i h5
            have e7 : (decide (c ∈ LET.cps.toList) || decide (c ∈ DIG.cps.toList)) = true := by rw [show decide (c ∈ LET.cps.toList) = true from decide_eq_true h5]; rfl
            have hA' : A (.bl (decide (c ∈ LET.cps.toList) || decide (c ∈ DIG.cps.toList))) M := hA
            rw [e7] at hA'; exact hA'
          · rename_i h5
            have e7 : (decide (c ∈ LET.cps.toList) || decide (c ∈ DIG.cps.toList)) = strIn ⟨#[c]⟩ DIG := by rw [show decide (c ∈ LET.cps.toList) = false from decide_eq_false h5, strIn_one]; rfl
            have hA' : A (.bl (decide (c ∈ LET.cps.toList) || decide (c ∈ DIG.cps.toList))) M := hA
            rw [e7] at hA'; exact hA'
        · rw [chars_map]
          walk_at "go"
          rw [boolsD_map (g := fun c => strIn ⟨#[c]⟩ LET || strIn ⟨#[c]⟩ DIG) fun _ => rfl]
          walk_at "go"
          refine cut _ ?_
          have h4' : c ∈ LET.cps.toList := h4
          have h3' : inV (.str s) RES = false := h3
          show nmS s = _
          simp only [nmS, h1, h2, h3', e, h4', List.all_map, strIn_one, decide_true, Bool.not_false, Bool.true_and, Bool.and_true, List.all_cons, Function.comp, id]
          rfl
      · rename_i h4
        refine cut _ ?_
        have h4' : ¬ c ∈ LET.cps.toList := h4
        simp [nm, nmS, e, h4']
    · rename_i h1
      refine cut _ ?_
      have : ¬ 1 ≤ (s.length : Int) := by omega
      simp [nm, nmS, this]
  | _ => first | exact hv.elim | (walk_at "go"; exact .keep k)
/-! _law_pen: 0 _law_script -/
abbrev p_law_pen : List Str := ["_law_script"]
@[irreducible] def sp_law_pen : DSp := fun ds M R _ => ∃ ns : List Int, ds = [.rol (ns.map D.int)] ∧ M = [] ∧ ∀ cs, R (.cel 0) [pen cs 0 0]
theorem len_law_pen : ∀ ds M R RX, sp_law_pen ds M R RX → ds.length = p_law_pen.length := by
  unfold sp_law_pen; rintro ds M R RX ⟨ns, rfl, _⟩; rfl
def w_law_pen : WS :=
  (wRet (wLstM (wCons (wCB (cList false) (wCons (wSl (wVar 0) wNoP (wP (wC (.int 60)))) wNil)) (wCons (wC (.int 0)) (wCons (wC (.int 0)) wNil)))))
theorem wp_law_pen : ∀ ds M R RX, sp_law_pen ds M R RX → w_law_pen (fnEnds M.length R) (startE 1 ds) M := by
  unfold sp_law_pen; rintro ds M R RX ⟨ns, rfl, rfl, k⟩
  walk_at "go"
  have e : L3.cutD (ns.map D.int) none (some 60) = ((ns.drop (HT.sIx ns.length 0 none)).take (HT.sIx ns.length ns.length (some 60) - HT.sIx ns.length 0 none)).map D.int := by
    unfold L3.cutD; simp only [List.length_map, List.map_drop, List.map_take]
  refine .keep ?_
  have := k ((ns.drop (HT.sIx ns.length 0 none)).take (HT.sIx ns.length ns.length (some 60) - HT.sIx ns.length 0 none))
  unfold pen at this
  rw [← e] at this
  exact this
theorem use_law_pen {ns : List Int} {R RX} (k : ∀ cs, R (.cel 0) [pen cs 0 0]) : sp_law_pen [.rol (ns.map D.int)] [] R RX := by
  unfold sp_law_pen; exact ⟨ns, rfl, rfl, k⟩
/-! _law_draw: 0 _law_pen_here, 1 _law_many, 2 _law_at, 3 _law_cell, 4 _law_mixed, 5 _law_digit, 6 _law_great -/
abbrev p_law_draw : List Str := ["_law_pen_here", "_law_many"]
@[irreducible] def sp_law_draw : DSp := fun ds M R _ => ∃ (many : Int) (cs : List Int) (at_ rest : Int) (M2 : Mt), ds = [.cel 0, .int many] ∧ M = pen cs at_ rest :: M2 ∧ 0 ≤ at_ ∧ at_ ≤ 1000000 ∧ 0 ≤ rest ∧ 1 ≤ many ∧ many < 1073741824 ∧
  ∀ d at' rest', 0 ≤ d → d < many → at_ ≤ at' → at' ≤ at_ + 1 → 0 ≤ rest' → R (.int d) (pen cs at' rest' :: M2)
theorem len_law_draw : ∀ ds M R RX, sp_law_draw ds M R RX → ds.length = p_law_draw.length := by
  unfold sp_law_draw; rintro ds M R RX ⟨_, _, _, _, _, rfl, _⟩; rfl
theorem use_law_draw {cs : List Int} {at_ rest many : Int} {M2 : Mt} {R RX} (h1 : 1 ≤ many) (h2 : many < 1073741824) (h3 : 0 ≤ at_) (h4 : at_ ≤ 1000000) (h5 : 0 ≤ rest)
    (k : ∀ d at' rest', 0 ≤ d → d < many → at_ ≤ at' → at' ≤ at_ + 1 → 0 ≤ rest' → R (.int d) (pen cs at' rest' :: M2)) : sp_law_draw [.cel 0, .int many] (pen cs at_ rest :: M2) R RX := by
  unfold sp_law_draw; exact ⟨many, cs, at_, rest, M2, rfl, rfl, h3, h4, h5, h1, h2, k⟩
def w_law_draw : WS :=
  (wSeq (wIfS (wTest (wOp oGt (wOp oIx (wVar 0) (wC (.int 2))) (wC (.int 0)))) (wSeq (wAsg (wOp oMod (wCB cInt (wCons (wOp oIx (wVar 0) (wC (.int 2))) wNil)) (wVar 1)) (gN 5))
    (wSeq (wAsg (wOp oFdiv (wOp oIx (wVar 0) (wC (.int 2))) (wVar 1)) (gIxL (wVar 0) (wC (.int 2))))
    (wRet (wVar 5)))) wSkip)
    (wSeq (wAsg (wOp oIx (wVar 0) (wC (.int 1))) (gN 2))
    (wSeq (wAsg (wOp oAdd (wVar 2) (wC (.int 1))) (gIxL (wVar 0) (wC (.int 1))))
    (wSeq (wAsg (wOp oAdd (wOp oMul (wC (.int 7433)) (wVar 2)) (wC (.int 59))) (gN 3))
    (wSeq (wIfS (wTest (wOp oNe (wOp oIx (wVar 0) (wC (.int 0))) (wLst wNil))) (wAsg (wOp oIx (wOp oIx (wVar 0) (wC (.int 0))) (wOp oMod (wCB cInt (wCons (wVar 2) wNil)) (wCB cLen (wCons (wOp oIx (wVar 0) (wC (.int 0))) wNil)))) (gN 3)) wSkip)
    (wSeq (wIfS (wAndT (wTest (wOp oLt (wVar 2) (wCB cLen (wCons (wOp oIx (wVar 0) (wC (.int 0))) wNil)))) (wTest (wOp oGe (wCB cAbs (wCons (wVar 3) wNil)) (wOp oPow (wC (.int 10)) (wC (.int 18)))))) (wSeq (wAsg (wOp oAdd (wOp oMul (wC (.int 2)) (wOp oSub (wCB cAbs (wCons (wVar 3) wNil)) (wOp oPow (wC (.int 10)) (wC (.int 18))))) (wCB cInt (wCons (wOp oLt (wVar 3) (wC (.int 0))) wNil))) (gN 6))
    (wSeq (wAsg (wOp oFdiv (wVar 6) (wVar 1)) (gIxL (wVar 0) (wC (.int 2))))
    (wRet (wOp oMod (wCB cInt (wCons (wVar 6) wNil)) (wVar 1))))) wSkip)
    (wSeq (wAsg (wOp oMod (wCB cInt (wCons (wOp oPow (wOp oAdd (wOp oAdd (wOp oMod (wCB cInt (wCons (wVar 3) wNil)) (wC (.int 2147483563))) (wOp oMul (wC (.int 52081)) (wVar 2))) (wC (.int 59))) (wC (.int 3))) wNil)) (wC (.int 2147483647))) (gN 4))
    (wSeq (wAsg (wOp oMod (wCB cInt (wCons (wOp oPow (wOp oAdd (wOp oAdd (wOp oMul (wVar 4) (wOp oAdd (wOp oMul (wC (.int 2)) (wVar 2)) (wC (.int 23)))) (wOp oMul (wOp oMul (wC (.int 52081)) (wVar 2)) (wVar 2))) (wC (.int 7433))) (wC (.int 5))) wNil)) (wC (.int 2147483587))) (gN 4))
    (wRet (wOp oMod (wCB cInt (wCons (wOp oFdiv (wVar 4) (wC (.int 16))) wNil)) (wVar 1)))))))))))
theorem atI_mod {cs : List Int} {a : Int} (h : (cs.map D.int).isEmpty = false) (h0 : 0 ≤ a) : ∃ c, L2.atI (cs.map D.int) (a % ((cs.map D.int).length : Int)) = some (D.int c) := by
  have hp : 0 < cs.length := by cases cs <;> simp_all
  have h1 := Int.emod_nonneg a (show ((cs.map D.int).length : Int) ≠ 0 by rw [List.length_map]; omega)
  have h2 := Int.emod_lt_of_pos a (show (0 : Int) < ((cs.map D.int).length : Int) by rw [List.length_map]; omega)
  rw [atI_in h1 h2, List.getElem?_map, List.getElem?_eq_getElem (by rw [List.length_map] at *; omega)]
  exact ⟨_, rfl⟩
theorem pow_ok (m a x y z : Int) (hx : 0 ≤ x) (hx' : x < 1000) (hy : 0 ≤ y) (hy' : y < 100000) (hz : 0 ≤ z) (hz' : z < 100000) (h : 0 ≤ m) (h' : m < 2147483647) (h0 : 0 ≤ a) (h1 : a ≤ 1000000) : CPow (m * (2 * a + x) + y * a * a + z) 5 := by
  have h2 : m * (2 * a + x) ≤ 2147483647 * 2001000 := Int.mul_le_mul (by omega) (by omega) (by omega) (by omega)
  have h3 : 0 ≤ m * (2 * a + x) := Int.mul_nonneg h (by omega)
  have h4 : y * a ≤ 100000 * 1000000 := Int.mul_le_mul (by omega) (by omega) (by omega) (by omega)
  have h5 : 0 ≤ y * a := Int.mul_nonneg hy h0
  have h6 : y * a * a ≤ 100000000000 * 1000000 := Int.mul_le_mul (by omega) (by omega) (by omega) (by omega)
  have h7 : 0 ≤ y * a * a := Int.mul_nonneg h5 h0
  exact cpow (by omega) (by omega) (by omega) (by omega)
theorem great_ok {c : Int} (h : 10 ^ Int.toNat 18 ≤ absI c) : 0 ≤ 2 * (absI c - 10 ^ Int.toNat 18) + (if decide (c < 0) = true then 1 else 0) := by
  split <;> omega
theorem wp_law_draw : ∀ ds M R RX, sp_law_draw ds M R RX → w_law_draw (fnEnds M.length R) (startE 7 ds) M := by
  unfold sp_law_draw; rintro ds M R RX ⟨many, cs, at_, rest, M2, rfl, rfl, h0, h1, h2, h3, h4, k⟩
  have p1 : ∀ a x : Int, 0 ≤ a % x ∨ x = 0 := fun a x => by by_cases hx : x = 0; exact .inr hx; exact .inl (Int.emod_nonneg _ hx)
  have fin : ∀ (x a' r' : Int), at_ ≤ a' → a' ≤ at_ + 1 → 0 ≤ r' → R (.int (x % many)) (pen cs a' r' :: M2) := fun x a' r' q1 q2 q3 =>
    k _ _ _ (Int.emod_nonneg _ (by omega)) (Int.emod_lt_of_pos _ (by omega)) q1 q2 q3
  have m31 : ∀ x : Int, 0 ≤ x % 2147483647 ∧ x % 2147483647 < 2147483647 := fun x => ⟨Int.emod_nonneg _ (by decide), Int.emod_lt_of_pos _ (by decide)⟩
  have end1 : ∀ x : Int, retF (pen cs at_ rest :: M2).length R (.int (x % many)) (pen cs (at_ + 1) rest :: M2) := fun x => .keep (fin _ _ _ (by omega) (by omega) (by omega))
  have end2 : ∀ x : Int, 0 ≤ x → retF (pen cs at_ rest :: M2).length R (.int (x % many)) (pen cs (at_ + 1) (x / many) :: M2) := fun x hx => .keep (fin _ _ _ (by omega) (by omega) (Int.ediv_nonneg hx (by omega)))
  walk_at "go"
  · exact .keep (fin _ _ _ (by omega) (by omega) (Int.ediv_nonneg h2 (by omega)))
  · rename_i hr he
    exact ⟨by rw [List.length_map]; cases cs <;> simp_all⟩
  · rename_i hr he
    obtain ⟨c, hc⟩ := atI_mod (a := at_) he h0
    rw [hc]
    walk_at "go"
    all_goals first
      | exact end1 _
      | exact end2 _ (great_ok (by assumption))
      | exact ⟨pow_ok _ _ _ _ _ (by decide) (by decide) (by decide) (by decide) (by decide) (by decide) (m31 _).1 (m31 _).2 h0 h1⟩
  all_goals first
    | exact end1 _
    | exact end2 _ (great_ok (by assumption))
    | exact ⟨pow_ok _ _ _ _ _ (by decide) (by decide) (by decide) (by decide) (by decide) (by decide) (m31 _).1 (m31 _).2 h0 h1⟩
/-! _law_pick: 0 _law_pen_here, 1 _law_some -/
abbrev p_law_pick : List Str := ["_law_pen_here", "_law_some"]
local macro_rules | `(tactic| walk_at "ar") => `(tactic| first | omega | (decide +kernel) | (simp; done) | (simp; omega))
local macro_rules | `(tactic| walk_at "call") => `(tactic| (refine use_law_draw (by walk_at "ar") (by walk_at "ar") (by omega) (by omega) (by omega) ?_; intro dr ar rr hd1 hd2 ha1 ha2 hr1; walk_at "go"))
@[irreducible] def sp_law_pick : DSp := fun ds M R _ => ∃ (l : List D) (cs : List Int) (at_ rest : Int) (M2 : Mt), ds = [.cel 0, .lst l] ∧ M = pen cs at_ rest :: M2 ∧ 0 ≤ at_ ∧ at_ ≤ 1000000 ∧ 0 ≤ rest ∧ 1 ≤ l.length ∧ l.length < 1000000 ∧
  ∀ (d : D) (at' rest' : Int), d ∈ l → at_ ≤ at' → at' ≤ at_ + 1 → 0 ≤ rest' → R d (pen cs at' rest' :: M2)
theorem len_law_pick : ∀ ds M R RX, sp_law_pick ds M R RX → ds.length = p_law_pick.length := by
  unfold sp_law_pick; rintro ds M R RX ⟨_, _, _, _, _, rfl, _⟩; rfl
theorem use_law_pick {l : List D} {cs : List Int} {at_ rest : Int} {M2 : Mt} {R RX} (h1 : 1 ≤ l.length) (h2 : l.length < 1000000) (h3 : 0 ≤ at_) (h4 : at_ ≤ 1000000) (h5 : 0 ≤ rest)
    (k : ∀ (d : D) (at' rest' : Int), d ∈ l → at_ ≤ at' → at' ≤ at_ + 1 → 0 ≤ rest' → R d (pen cs at' rest' :: M2)) : sp_law_pick [.cel 0, .lst l] (pen cs at_ rest :: M2) R RX := by
  unfold sp_law_pick; exact ⟨l, cs, at_, rest, M2, rfl, rfl, h3, h4, h5, h1, h2, k⟩
def w_law_pick : WS :=
  (wRet (wOp oIx (wVar 1) (wCall sp_law_draw [] RX0 (wCons (wVar 0) (wCons (wCB cLen (wCons (wVar 1) wNil)) wNil)))))
theorem wp_law_pick : ∀ ds M R RX, sp_law_pick ds M R RX → w_law_pick (fnEnds M.length R) (startE 2 ds) M := by
  unfold sp_law_pick; rintro ds M R RX ⟨l, cs, at_, rest, M2, rfl, rfl, h3, h4, h5, h1, h2, k⟩
  walk_at "go"
  rename_i dr ar rr hd1 hd2 ha1 ha2 hr1
  have e : L2.atI l dr = l[dr.toNat]? := atI_in hd1 hd2
  rw [e, List.getElem?_eq_getElem (by omega)]
  walk_at "go"
  exact .keep (k _ _ _ (List.getElem_mem _) ha1 ha2 hr1)
/-! _law_due: 0 _law_value, 1 _law_letters, 2 _law_sign -/
abbrev p_law_due : List Str := ["_law_value"]
theorem use_is_name {d : D} {M : Mt} {R RX} (h : Val d) (k : R (.bl (nm d)) M) : sp_is_name [d] M R RX := by
  unfold sp_is_name; exact ⟨d, rfl, h, k⟩
@[irreducible] def sp_law_due : DSp := fun ds M R _ => ∃ d, ds = [d] ∧ Val d ∧ R (.bl (nm d)) M
theorem len_law_due : ∀ ds M R RX, sp_law_due ds M R RX → ds.length = p_law_due.length := by
  unfold sp_law_due; rintro ds M R RX ⟨d, rfl, _⟩; rfl
theorem use_law_due {d : D} {M : Mt} {R RX} (h : Val d) (k : R (.bl (nm d)) M) : sp_law_due [d] M R RX := by
  unfold sp_law_due; exact ⟨d, rfl, h, k⟩
theorem inV_cons (s : Str) (t : Str) (r : List V) : inV (.str s) (.str t :: r) = ((t == s) || inV (.str s) r) := rfl
theorem nm_res {s : Str} (h : inV (.str s) RES = true) : nm (.str s) = false := by simp [nm, nmS, h]
theorem nm_long {s : Str} (h : 8 < (s.length : Int)) : nm (.str s) = false := by
  have : ¬ (s.length : Int) ≤ 8 := by omega
  simp [nm, nmS, this]
theorem nm_short {s : Str} (h : (s.length : Int) < 1) : nm (.str s) = false := by
  have : ¬ 1 ≤ (s.length : Int) := by omega
  simp [nm, nmS, this]
theorem letdig (c : Nat) : strIn ⟨#[c]⟩ (LET ++ DIG) = (decide (c ∈ LET.cps.toList) || decide (c ∈ DIG.cps.toList)) := by
  rw [strIn_one, app_cps]
  simp [List.mem_append]
theorem nodigs (l : List Nat) (p : Nat → Bool) : (l.filter fun c => !p c).isEmpty = l.all p := by
  induction l with
  | nil => rfl
  | cons c r ih => cases h : p c <;> simp [h, ih]
def w_law_due : WS :=
  (wSeq (wIfS (wOrT (wNotT (wTru (wCB cIsi (wCons (wVar 0) (wCons (wC (.ty "str")) wNil))))) (wOrT (wTest (wOp (oIn false) (wVar 0) (wLst (wCons (wC (.str "")) (wCons (wC (.str "to")) (wCons (wC (.str "if")) (wCons (wC (.str "tag")) (wCons (wC (.str "all")) (wCons (wC (.str "none")) wNil))))))))) (wTest (wOp oGt (wCB cLen (wCons (wVar 0) wNil)) (wC (.int 8)))))) (wRet (wC (.bl false))) wSkip)
    (wSeq (wAsg (wC (.str "abcdefghijklmnopqrstuvwxyz")) (gN 1))
    (wRet (wAndV (wOp (oIn false) (wOp oIx (wVar 0) (wC (.int 0))) (wVar 1)) (wOp oEq (wLc (wIt (wVar 0)) [2] (wTest (wOp (oIn true) (wVar 2) (wOp oAdd (wVar 1) (wC (.str "0123456789"))))) (wVar 2) [2]) (wLst wNil))))))
theorem wp_law_due : ∀ ds M R RX, sp_law_due ds M R RX → w_law_due (fnEnds M.length R) (startE 3 ds) M := by
  unfold sp_law_due; rintro ds M R RX ⟨d, rfl, hv, k⟩
  cases d with
  | str s =>
    obtain ⟨hl, hc⟩ := hv
    have cut : ∀ b : Bool, nm (.str s) = b → retF M.length R (.bl b) M := fun b e => .keep (by rw [← e]; exact k)
    walk_at "go"
    · rename_i h1 h2
      have h1' : ((("" : Str) == s) || inV (.str s) RES) = true := h1
      rcases Bool.or_eq_true_iff.mp h1' with z | z
      · have : s = "" := (by simpa using z : ("" : Str) = s).symm
        refine cut _ (nm_short ?_)
        rw [this]; decide +kernel
      · exact cut _ (nm_res z)
    · rename_i h1 h2
      exact cut _ (nm_long h2)
    · rename_i h1 h2
      have h1' : ((("" : Str) == s) || inV (.str s) RES) = false := h1
      obtain ⟨h3, h4⟩ := Bool.or_eq_false_iff.mp h1'
      obtain ⟨c, cs, e⟩ : ∃ c cs, s.cps.toList = c :: cs := by
        cases e : s.cps.toList with
        | nil =>
          have : s = "" := by
            have z : s.cps = #[] := by rw [← Array.toList_inj, e]
            cases s; cases z; rfl
          rw [this] at h3; cases h3
        | cons c cs => exact ⟨c, cs, rfl⟩
      have hl1 : 1 ≤ (s.length : Int) := by
        have : s.cps.toList.length = cs.length + 1 := by rw [e]; rfl
        rw [Array.length_toList] at this
        show 1 ≤ (s.cps.size : Int)
        omega
      have e0 : L2.atI s.cps.toList 0 = some c := by rw [e]; exact atI_nat (j := 0) rfl
      rw [e0]
      walk_at "go"
      · rename_i h5
        have h5' : c ∈ LET.cps.toList := h5
        refine lcL_fun (fun d => match d with | .str x => !strIn x (LET ++ DIG) | _ => false) id _ _ _ (by rw [chars_len, line16]; simp; omega) (fun d hd A C hA hC => ?_) ?_
        · obtain ⟨c, _, rfl⟩ := mem_chars hd
          have hA' : (!strIn ⟨#[c]⟩ (LET ++ DIG)) = true → A (.str ⟨#[c]⟩) M := hA
          have hC' : (!strIn ⟨#[c]⟩ (LET ++ DIG)) = false → C M := hC
          clear hA hC
          walk_at "go"
          · rename_i h7
            exact hA' h7
          · rename_i h7
            exact hC' h7
        · have eL : ([] ++ ((chars s).filter fun d => match d with | .str x => !strIn x (LET ++ DIG) | _ => false).map id) = ((s.cps.toList.filter fun c => !(decide (c ∈ LET.cps.toList) || decide (c ∈ DIG.cps.toList))).map fun c => (⟨#[c]⟩ : Str)).map D.str := by
            rw [List.nil_append, List.map_id]
            unfold chars
            rw [List.filter_map, List.map_map]
            congr 1
            exact List.filter_congr fun c _ => by simp only [Function.comp, letdig]
          rw [eL]
          walk_at "go"
          · refine ⟨plain_strs _ fun t ht => ?_⟩
            obtain ⟨x, hx, rfl⟩ := List.mem_map.mp ht
            have := hc x (List.mem_filter.mp hx).1
            simp [PyData.strOk]
            omega
          · refine cut _ ?_
            have h2' : (s.length : Int) ≤ 8 := h2
            show nmS s = (List.map D.str _).isEmpty
            rw [List.isEmpty_map, List.isEmpty_map, nodigs]
            simp only [nmS, hl1, h2', h4, e, h5', decide_true, Bool.not_false, Bool.true_and]
      · rename_i h5
        refine cut _ ?_
        have h5' : ¬ c ∈ LET.cps.toList := h5
        simp [nm, nmS, e, h5']
  | _ => first | exact hv.elim | (walk_at "go"; exact .keep k)
/-! _law_text: 0 _law_pen_here, 1 _law_text_here, 2 _law_k, 3 _law_letters, 4 _law_signs, 5 _law_odd_here, 6 _law_at -/
abbrev p_law_text : List Str := ["_law_pen_here"]
@[irreducible] def sp_law_text : DSp := fun ds M R _ => ∃ (cs : List Int) (at_ rest : Int) (M2 : Mt), ds = [.cel 0] ∧ M = pen cs at_ rest :: M2 ∧ 0 ≤ at_ ∧ at_ ≤ 900000 ∧ 0 ≤ rest ∧
  ∀ (s : Str) (at' rest' : Int), Asc s → s.length ≤ 30 → at_ ≤ at' → at' ≤ at_ + 30 → 0 ≤ rest' → R (.str s) (pen cs at' rest' :: M2)
theorem len_law_text : ∀ ds M R RX, sp_law_text ds M R RX → ds.length = p_law_text.length := by
  unfold sp_law_text; rintro ds M R RX ⟨_, _, _, _, rfl, _⟩; rfl
theorem use_law_text {cs : List Int} {at_ rest : Int} {M2 : Mt} {R RX} (h3 : 0 ≤ at_) (h4 : at_ ≤ 900000) (h5 : 0 ≤ rest)
    (k : ∀ (s : Str) (at' rest' : Int), Asc s → s.length ≤ 30 → at_ ≤ at' → at' ≤ at_ + 30 → 0 ≤ rest' → R (.str s) (pen cs at' rest' :: M2)) : sp_law_text [.cel 0] (pen cs at_ rest :: M2) R RX := by
  unfold sp_law_text; exact ⟨cs, at_, rest, M2, rfl, rfl, h3, h4, h5, k⟩
def SGN : Str := "az09mt5"
def ODD : Str := " !+-.:=?@AZ[_{|}~/'#0a\"\n"
theorem asc_LET : Asc LET := by unfold Asc; decide +kernel
theorem asc_DIG : Asc DIG := by unfold Asc; decide +kernel
theorem asc_SGN : Asc SGN := by unfold Asc; decide +kernel
theorem asc_ODD : Asc ODD := by unfold Asc; decide +kernel
theorem len_LET : LET.length = 26 := by decide +kernel
theorem len_SGN : SGN.length = 7 := by decide +kernel
theorem len_ODD : ODD.length = 24 := by decide +kernel
/-- one sign of a text -/
theorem sign_at {s : Str} (ha : Asc s) {i : Int} (h : 0 ≤ i) (h2 : i < s.length) : ∃ c, L2.atI s.cps.toList i = some c ∧ Asc ⟨#[c]⟩ := by
  obtain ⟨c, e, m⟩ := str_at h h2
  exact ⟨c, e, asc_one (ha c m)⟩
def w_law_text : WS :=
  (wSeq (wAsg (wTup (wCons (wC (.str "abcdefghijklmnopqrstuvwxyz")) (wCons (wC (.str "az09mt5")) wNil))) (gT 2 (gsCons (gN 3) (gsCons (gN 4) gsNil))))
    (wSeq (wAsg (wIfE (wTest (wOp oEq (wCall sp_law_draw [] RX0 (wCons (wVar 0) (wCons (wC (.int 12)) wNil))) (wC (.int 0)))) (wC (.str "")) (wOp oIx (wVar 3) (wCall sp_law_draw [] RX0 (wCons (wVar 0) (wCons (wC (.int 26)) wNil))))) (gN 1))
    (wSeq (wFor (wRng1 (wCons (wCall sp_law_draw [] RX0 (wCons (wVar 0) (wCons (wC (.int 10)) wNil))) wNil)) (gN 2) (wAsg (wOp oAdd (wVar 1) (wOp oIx (wVar 4) (wCall sp_law_draw [] RX0 (wCons (wVar 0) (wCons (wC (.int 7)) wNil))))) (gN 1)))
    (wSeq (wIfS (wTest (wOp oEq (wCall sp_law_draw [] RX0 (wCons (wVar 0) (wCons (wC (.int 4)) wNil))) (wC (.int 0)))) (wSeq (wAsg (wC (.str " !+-.:=?@AZ[_{|}~/'#0a\"\n")) (gN 5))
    (wSeq (wAsg (wCall sp_law_draw [] RX0 (wCons (wVar 0) (wCons (wOp oAdd (wCB cLen (wCons (wVar 1) wNil)) (wC (.int 1))) wNil))) (gN 6))
    (wAsg (wOp oAdd (wOp oAdd (wSl (wVar 1) wNoP (wP (wVar 6))) (wOp oIx (wVar 5) (wCall sp_law_draw [] RX0 (wCons (wVar 0) (wCons (wCB cLen (wCons (wVar 5) wNil)) wNil))))) (wSl (wVar 1) (wP (wOp oAdd (wVar 6) (wCall sp_law_draw [] RX0 (wCons (wVar 0) (wCons (wC (.int 2)) wNil))))) wNoP)) (gN 1)))) wSkip)
    (wRet (wVar 1))))))
def textI (cs : List Int) (at_ : Int) (M2 : Mt) (i : Nat) (env : Ev) (M : Mt) : Prop := ∃ (s : Str) (a r : Int) (e2 e5 e6 : Option D), env = [some (.cel 0), some (.str s), e2, some (.str LET), some (.str SGN), e5, e6] ∧ M = pen cs a r :: M2 ∧
  Asc s ∧ s.length ≤ 1 + i ∧ at_ ≤ a ∧ a ≤ at_ + 3 + i ∧ 0 ≤ r
/-- the loop and what stands behind it -/
theorem text_tail {cs : List Int} {at_ : Int} {M2 : Mt} {R : D → Mt → Prop} {n0 : Nat} {a r n : Int} {s0 : Str} {e2 e5 e6 : Option D} {bk ct : Ev → Mt → Prop} (h0 : 0 ≤ at_) (h1 : at_ ≤ 900000)
    (k : ∀ (s : Str) (at' rest' : Int), Asc s → s.length ≤ 30 → at_ ≤ at' → at' ≤ at_ + 30 → 0 ≤ rest' → R (.str s) (pen cs at' rest' :: M2))
    (ha : Asc s0) (hs : s0.length ≤ 1) (q1 : at_ ≤ a) (q2 : a ≤ at_ + 3) (q3 : 0 ≤ r) (q4 : 0 ≤ n) (q5 : n < 10) :
    forL (gN 2) (wAsg (wOp oAdd (wVar 1) (wOp oIx (wVar 4) (wCall sp_law_draw [] RX0 (wCons (wVar 0) (wCons (wC (.int 7)) wNil))))) (gN 1))
      { nx := wSeq (wIfS (wTest (wOp oEq (wCall sp_law_draw [] RX0 (wCons (wVar 0) (wCons (wC (.int 4)) wNil))) (wC (.int 0)))) (wSeq (wAsg (wC (.str " !+-.:=?@AZ[_{|}~/'#0a\"\n")) (gN 5))
          (wSeq (wAsg (wCall sp_law_draw [] RX0 (wCons (wVar 0) (wCons (wOp oAdd (wCB cLen (wCons (wVar 1) wNil)) (wC (.int 1))) wNil))) (gN 6))
          (wAsg (wOp oAdd (wOp oAdd (wSl (wVar 1) wNoP (wP (wVar 6))) (wOp oIx (wVar 5) (wCall sp_law_draw [] RX0 (wCons (wVar 0) (wCons (wCB cLen (wCons (wVar 5) wNil)) wNil))))) (wSl (wVar 1) (wP (wOp oAdd (wVar 6) (wCall sp_law_draw [] RX0 (wCons (wVar 0) (wCons (wC (.int 2)) wNil))))) wNoP)) (gN 1)))) wSkip)
          (wRet (wVar 1)) (fnEnds n0 R), rt := (fnEnds n0 R).rt, bk := bk, ct := ct } (rangeD 0 n.toNat) [some (.cel 0), some (.str s0), e2, some (.str LET), some (.str SGN), e5, e6] (pen cs a r :: M2) := by
  refine forL_inv (textI cs at_ M2) ⟨s0, a, r, e2, e5, e6, rfl, rfl, ha, by omega, q1, by omega, q3⟩ ?_ ?_
  · rintro i d env M hd ⟨s, a, r, e2, e5, e6, rfl, rfl, ha, hs, q1, q2, q3⟩
    have hi : i < 10 := by
      have := (List.getElem?_eq_some_iff.mp hd).1
      simp [rangeD] at this
      omega
    walk_at "go"
    rename_i d2 a2 r2 g1 g2 g3 g4 g5
    obtain ⟨c, ec, ac⟩ := sign_at asc_SGN g1 (by rw [len_SGN]; omega)
    rw [ec]
    have e1 := app_len s ⟨#[c]⟩
    have e2 := one_len c
    have hac := asc_app ha ac
    walk_at "go"
    exact ⟨s ++ ⟨#[c]⟩, a2, r2, _, _, _, rfl, rfl, hac, by omega, by omega, by omega, by omega⟩
  · rintro env M ⟨s, a, r, e2, e5, e6, rfl, rfl, ha, hs, q1, q2, q3⟩
    have hl : (rangeD 0 n.toNat).length ≤ 9 := by simp [rangeD]; omega
    have hO : (Str.ofString " !+-.:=?@AZ[_{|}~/'#0a\"\n").length = 24 := len_ODD
    have c1 := fun lo hi => cut_len s lo hi
    walk_at "go"
    · rename_i d1 a1 r1 x1 x2 x3 x4 x5 hz d2 a2 r2 y1 y2 y3 y4 y5 d3 a3 r3 z1 z2 z3 z4 z5
      obtain ⟨c, ec, ac⟩ := sign_at asc_ODD z1 (by rw [len_ODD]; omega)
      have ec' : L2.atI (Str.ofString " !+-.:=?@AZ[_{|}~/'#0a\"\n").cps.toList d3 = some c := ec
      rw [ec']
      have e1 := app_len (cutS s none (some d2)) ⟨#[c]⟩
      have e2 := one_len c
      have e3 := c1 none (some d2)
      walk_at "go"
      · rename_i d4 a4 r4 w1 w2 w3 w4 w5
        have e4 := c1 (some (d2 + d4)) none
        exact ⟨by rw [line16]; omega⟩
      · rename_i d4 a4 r4 w1 w2 w3 w4 w5
        have e4 := c1 (some (d2 + d4)) none
        have e5 := app_len (cutS s none (some d2) ++ ⟨#[c]⟩) (cutS s (some (d2 + d4)) none)
        exact .keep (k _ _ _ (asc_app (asc_app (asc_cut ha _ _) ac) (asc_cut ha _ _)) (by omega) (by omega) (by omega) (by omega))
    · exact .keep (k _ _ _ ha (by omega) (by omega) (by omega) (by omega))
theorem wp_law_text : ∀ ds M R RX, sp_law_text ds M R RX → w_law_text (fnEnds M.length R) (startE 7 ds) M := by
  unfold sp_law_text; rintro ds M R RX ⟨cs, at_, rest, M2, rfl, rfl, h0, h1, h2, k⟩
  walk_at "go"
  rotate_left
  · rename_i d2 a2 r2 g1 g2 g3 g4 g5
    obtain ⟨c, ec, ac⟩ := sign_at asc_LET g1 (by rw [len_LET]; omega)
    have ec' : L2.atI (Str.ofString "abcdefghijklmnopqrstuvwxyz").cps.toList d2 = some c := ec
    rw [ec']
    have hs : (⟨#[c]⟩ : Str).length ≤ 1 := Nat.le_refl _
    walk_at "go"
    exact text_tail h0 h1 k ac hs (by omega) (by omega) (by omega) (by omega) (by omega)
  · exact text_tail h0 h1 k (s0 := "") (by unfold Asc; decide +kernel) (by decide +kernel) (by omega) (by omega) (by omega) (by omega) (by omega)
/-! _law_near: 0 _law_pen_here, 1 _law_word, 2 _law_at, 3 _law_menu -/
abbrev p_law_near : List Str := ["_law_pen_here"]
local macro_rules | `(tactic| walk_at "call") => `(tactic| (refine use_law_pick (by walk_at "ar") (by walk_at "ar") (by omega) (by omega) (by omega) ?_; intro dr ar rr hd1 ha1 ha2 hr1; walk_at "go"))
@[irreducible] def sp_law_near : DSp := fun ds M R _ => ∃ (cs : List Int) (at_ rest : Int) (M2 : Mt), ds = [.cel 0] ∧ M = pen cs at_ rest :: M2 ∧ 0 ≤ at_ ∧ at_ ≤ 900000 ∧ 0 ≤ rest ∧
  ∀ (s : Str) (at' rest' : Int), Asc s → s.length ≤ 30 → at_ ≤ at' → at' ≤ at_ + 30 → 0 ≤ rest' → R (.str s) (pen cs at' rest' :: M2)
theorem len_law_near : ∀ ds M R RX, sp_law_near ds M R RX → ds.length = p_law_near.length := by
  unfold sp_law_near; rintro ds M R RX ⟨_, _, _, _, rfl, _⟩; rfl
theorem use_law_near {cs : List Int} {at_ rest : Int} {M2 : Mt} {R RX} (h3 : 0 ≤ at_) (h4 : at_ ≤ 900000) (h5 : 0 ≤ rest)
    (k : ∀ (s : Str) (at' rest' : Int), Asc s → s.length ≤ 30 → at_ ≤ at' → at' ≤ at_ + 30 → 0 ≤ rest' → R (.str s) (pen cs at' rest' :: M2)) : sp_law_near [.cel 0] (pen cs at_ rest :: M2) R RX := by
  unfold sp_law_near; exact ⟨cs, at_, rest, M2, rfl, rfl, h3, h4, h5, k⟩
def w_law_near : WS :=
  (wSeq (wAsg (wCall sp_law_pick [] RX0 (wCons (wVar 0) (wCons (wLst (wCons (wC (.str "to")) (wCons (wC (.str "if")) (wCons (wC (.str "tag")) (wCons (wC (.str "all")) (wCons (wC (.str "none")) wNil)))))) wNil))) (gN 1))
    (wSeq (wAsg (wCall sp_law_draw [] RX0 (wCons (wVar 0) (wCons (wCB cLen (wCons (wVar 1) wNil)) wNil))) (gN 2))
    (wSeq (wAsg (wLst (wCons (wVar 1) (wCons (wOp oAdd (wVar 1) (wC (.str "s"))) (wCons (wOp oAdd (wC (.str "a")) (wVar 1)) (wCons (wOp oAdd (wSl (wVar 1) wNoP (wP (wVar 2))) (wSl (wVar 1) (wP (wOp oAdd (wVar 2) (wC (.int 1)))) wNoP)) (wCons (wOp oAdd (wOp oAdd (wSl (wVar 1) wNoP (wP (wVar 2))) (wC (.str "x"))) (wSl (wVar 1) (wP (wOp oAdd (wVar 2) (wC (.int 1)))) wNoP)) (wCons (wOp oAdd (wVar 1) (wC (.str "1"))) wNil))))))) (gN 3))
    (wRet (wCall sp_law_pick [] RX0 (wCons (wVar 0) (wCons (wOp oAdd (wVar 3) (wLst (wCons (wOp oAdd (wC (.str "1")) (wVar 1)) (wCons (wOp oAdd (wVar 1) (wVar 1)) (wCons (wOp oAdd (wVar 1) (wC (.str " "))) (wCons (wOp oAdd (wC (.str " ")) (wVar 1)) wNil)))))) wNil)))))))
theorem near_word : ∀ d ∈ ([.str "to", .str "if", .str "tag", .str "all", .str "none"] : List D), ∃ s, d = .str s ∧ Asc s ∧ 1 ≤ s.length ∧ s.length ≤ 4 := by
  intro d hd
  simp only [List.mem_cons, List.not_mem_nil, or_false] at hd
  rcases hd with rfl | rfl | rfl | rfl | rfl <;> exact ⟨_, rfl, by unfold Asc; decide +kernel, by decide +kernel, by decide +kernel⟩
theorem wp_law_near : ∀ ds M R RX, sp_law_near ds M R RX → w_law_near (fnEnds M.length R) (startE 4 ds) M := by
  unfold sp_law_near; rintro ds M R RX ⟨cs, at_, rest, M2, rfl, rfl, h0, h1, h2, k⟩
  have ls : (Str.ofString "s").length = 1 := by decide +kernel
  have la : (Str.ofString "a").length = 1 := by decide +kernel
  have lx : (Str.ofString "x").length = 1 := by decide +kernel
  have l1 : (Str.ofString "1").length = 1 := by decide +kernel
  have lb : (Str.ofString " ").length = 1 := by decide +kernel
  walk_at "go"
  rename_i dr a1 r1 hd x1 x2 x3
  obtain ⟨w, rfl, aw, w1, w2⟩ := near_word _ hd
  walk_at "go"
  rotate_left 3
  · rename_i d2 a2 r2 y1 y2 y3 y4 y5 d3 a3 r3 hd3 z1 z2 z3
    have e1 := cut_len w none (some d2)
    have e2 := cut_len w (some (d2 + 1)) none
    have qs : Asc (Str.ofString "s") := by unfold Asc; decide +kernel
    have qa : Asc (Str.ofString "a") := by unfold Asc; decide +kernel
    have qx : Asc (Str.ofString "x") := by unfold Asc; decide +kernel
    have q1 : Asc (Str.ofString "1") := by unfold Asc; decide +kernel
    have qb : Asc (Str.ofString " ") := by unfold Asc; decide +kernel
    have key : ∃ t, d3 = .str t ∧ Asc t ∧ t.length ≤ 30 := by
      simp only [List.mem_append, List.mem_cons, List.not_mem_nil, or_false] at hd3
      rcases hd3 with (rfl | rfl | rfl | rfl | rfl | rfl) | rfl | rfl | rfl | rfl <;>
        exact ⟨_, rfl, by repeat' (first | assumption | exact asc_cut aw _ _ | refine asc_app ?_ ?_), by (try simp only [app_len]); omega⟩
    obtain ⟨t, rfl, at', lt⟩ := key
    exact .keep (k _ _ _ at' lt (by omega) (by omega) (by omega))
  all_goals
    rename_i d2 a2 r2 y1 y2 y3 y4 y5
    have e1 := cut_len w none (some d2)
    have e2 := cut_len w (some (d2 + 1)) none
    exact ⟨by rw [line16]; (try simp only [app_len]); omega⟩
/-! _law_odd: 0 _law_pen_here, 1 _law_menu -/
abbrev p_law_odd : List Str := ["_law_pen_here"]
local macro_rules | `(tactic| walk_at "leaf") => `(tactic| (refine Need.mk ?_; unfold MulOk; decide +kernel))
@[irreducible] def sp_law_odd : DSp := fun ds M R _ => ∃ (cs : List Int) (at_ rest : Int) (M2 : Mt), ds = [.cel 0] ∧ M = pen cs at_ rest :: M2 ∧ 0 ≤ at_ ∧ at_ ≤ 900000 ∧ 0 ≤ rest ∧
  ∀ (d : D) (at' rest' : Int), Val d → at_ ≤ at' → at' ≤ at_ + 30 → 0 ≤ rest' → R d (pen cs at' rest' :: M2)
theorem len_law_odd : ∀ ds M R RX, sp_law_odd ds M R RX → ds.length = p_law_odd.length := by
  unfold sp_law_odd; rintro ds M R RX ⟨_, _, _, _, rfl, _⟩; rfl
theorem use_law_odd {cs : List Int} {at_ rest : Int} {M2 : Mt} {R RX} (h3 : 0 ≤ at_) (h4 : at_ ≤ 900000) (h5 : 0 ≤ rest)
    (k : ∀ (d : D) (at' rest' : Int), Val d → at_ ≤ at' → at' ≤ at_ + 30 → 0 ≤ rest' → R d (pen cs at' rest' :: M2)) : sp_law_odd [.cel 0] (pen cs at_ rest :: M2) R RX := by
  unfold sp_law_odd; exact ⟨cs, at_, rest, M2, rfl, rfl, h3, h4, h5, k⟩
def w_law_odd : WS :=
  (wSeq (wAsg (wLst (wCons (wC .non) (wCons (wC (.bl true)) (wCons (wC (.bl false)) (wCons (wC (.int 0)) (wCons (wC (.int 7)) (wCons (wOp oPow (wC (.int 10)) (wC (.int 59))) (wCons (wTup wNil) (wCons (wTup (wCons (wC (.str "a")) wNil)) (wCons (wLst (wCons (wC (.str "a")) wNil)) (wCons (wDict0 false) (wCons (wDisp [((wC (.str "a")), (wC (.int 1)))]) (wCons (wOp oMul (wC (.str "a")) (wC (.int 9))) (wCons (wOp oMul (wC (.str "a")) (wC (.int 8))) (wCons (wOp oMul (wC (.str "a")) (wC (.int 6000))) (wCons (wC (.str "7a")) wNil)))))))))))))))) (gN 1))
    (wRet (wCall sp_law_pick [] RX0 (wCons (wVar 0) (wCons (wOp oAdd (wVar 1) (wLst (wCons (wOp oMul (wC (.str "a")) (wCall sp_law_draw [] RX0 (wCons (wVar 0) (wCons (wC (.int 12)) wNil)))) (wCons (wC (.str "a9z0a9z0")) (wCons (wC (.str "a9z0a9z0a")) (wCons (wLst (wCons (wLst wNil) wNil)) (wCons (wTup (wCons (wTup wNil) (wCons (wTup wNil) wNil))) wNil))))))) wNil)))))
theorem mulA : ∀ n : Nat, n < 12 → MulOk "a" n := by
  unfold MulOk; decide +kernel
theorem fold_app (x : Array Nat) : ∀ (n : Nat) (acc : Array Nat), ((List.replicate n x).foldl (· ++ ·) acc).toList = acc.toList ++ (List.replicate n x.toList).flatten
  | 0, acc => by simp
  | n + 1, acc => by
    rw [List.replicate_succ, List.foldl_cons, fold_app x n (acc ++ x), List.replicate_succ, List.flatten_cons, Array.toList_append, List.append_assoc]
theorem mul_asc {x : Str} (h : Asc x) (n : Int) : Asc (mulS x n) ∧ (mulS x n).length ≤ x.length + n.toNat * x.length := by
  unfold mulS Txt.mul
  split
  · exact ⟨fun c hc => (by have : c ∈ ([] : List Nat) := hc; exact nomatch this), Nat.zero_le _⟩
  · split
    · exact ⟨h, Nat.le_add_right _ _⟩
    · refine ⟨fun c hc => ?_, ?_⟩
      · rw [fold_app] at hc
        obtain ⟨l, hl, hc⟩ := List.mem_flatten.mp (show c ∈ (List.replicate n.toNat x.cps.toList).flatten from hc)
        rw [(List.mem_replicate.mp hl).2] at hc
        exact h c hc
      · have e : (⟨(List.replicate n.toNat x.cps).foldl (· ++ ·) #[]⟩ : Str).length = n.toNat * x.length := by
          show ((List.replicate n.toNat x.cps).foldl (· ++ ·) #[]).size = n.toNat * x.cps.size
          rw [← Array.length_toList, fold_app]
          simp
        rw [e]; omega
theorem asc_a : Asc "a" := by unfold Asc; decide +kernel
theorem len_a : (Str.ofString "a").length = 1 := by decide +kernel
theorem val_mul {n : Int} (h : n.toNat ≤ 10000) : Val (.str (mulS "a" n)) := by
  obtain ⟨h1, h2⟩ := mul_asc asc_a n
  have h3 : (mulS "a" n).length ≤ 1 + n.toNat * 1 := h2
  exact ⟨by omega, h1⟩
theorem wp_law_odd : ∀ ds M R RX, sp_law_odd ds M R RX → w_law_odd (fnEnds M.length R) (startE 2 ds) M := by
  unfold sp_law_odd; rintro ds M R RX ⟨cs, at_, rest, M2, rfl, rfl, h0, h1, h2, k⟩
  walk_at "go"
  · rename_i d2 a2 r2 y1 y2 y3 y4 y5
    obtain ⟨n, rfl⟩ : ∃ n : Nat, d2 = n := ⟨d2.toNat, by omega⟩
    exact ⟨mulA n (by omega)⟩
  · rename_i d2 a2 r2 y1 y2 y3 y4 y5 d3 a3 r3 hd z1 z2 z3
    obtain ⟨n, rfl⟩ : ∃ n : Nat, d2 = n := ⟨d2.toNat, by omega⟩
    have key : Val d3 := by
      simp only [List.mem_append, List.mem_cons, List.not_mem_nil, or_false] at hd
      have lit : ∀ s : Str, (s.length ≤ 100000 ∧ ∀ c ∈ s.cps.toList, c < 128) → Val (.str s) := fun s h => h
      rcases hd with (rfl | rfl | rfl | rfl | rfl | rfl | rfl | rfl | rfl | rfl | rfl | rfl | rfl | rfl | rfl) | rfl | rfl | rfl | rfl | rfl
      · exact True.intro
      · exact True.intro
      · exact True.intro
      · exact True.intro
      · exact True.intro
      · exact True.intro
      · exact True.intro
      · exact True.intro
      · exact True.intro
      · exact True.intro
      · exact True.intro
      · exact val_mul (n := 9) (by decide)
      · exact val_mul (n := 8) (by decide)
      · exact val_mul (n := 6000) (by decide)
      · exact lit _ (by decide +kernel)
      · exact val_mul (n := n) (by omega)
      · exact lit _ (by decide +kernel)
      · exact lit _ (by decide +kernel)
      · exact True.intro
      · exact True.intro
    exact .keep (k _ _ _ key (by omega) (by omega) (by omega))
/-! law: 0 _law_script, 1 _law_pen_here, 2 _law_turn, 3 _law_value, 4 _law_found -/
abbrev p_law : List Str := ["_law_script"]
local macro_rules | `(tactic| walk_at "call") => `(tactic| (refine use_law_text (by omega) (by omega) (by omega) ?_; intro dt at1 rt ht1 ht2 ht3 ht4 ht5; walk_at "go"))
local macro_rules | `(tactic| walk_at "call") => `(tactic| (refine use_law_near (by omega) (by omega) (by omega) ?_; intro dn at2 rn hn1 hn2 hn3 hn4 hn5; walk_at "go"))
local macro_rules | `(tactic| walk_at "call") => `(tactic| (refine use_law_odd (by omega) (by omega) (by omega) ?_; intro dd at3 rd ho1 ho3 ho4 ho5; walk_at "go"))
local macro_rules | `(tactic| walk_at "call") => `(tactic| (refine use_is_name (by first | assumption | exact ⟨by omega, by assumption⟩) ?_; walk_at "go"))
local macro_rules | `(tactic| walk_at "call") => `(tactic| (refine use_law_due (by first | assumption | exact ⟨by omega, by assumption⟩) ?_; walk_at "go"))
local macro_rules | `(tactic| walk_at "call") => `(tactic| (refine use_law_pen ?_; intro cs; walk_at "go"))
@[irreducible] def sp_law : DSp := fun ds M R _ => ∃ ns : List Int, ds = [.rol (ns.map D.int)] ∧ M = [] ∧ ∀ M', R (.bl true) M'
theorem len_law : ∀ ds M R RX, sp_law ds M R RX → ds.length = p_law.length := by
  unfold sp_law; rintro ds M R RX ⟨_, rfl, _⟩; rfl
theorem law_start (ns : List Int) (hl : ns.length ≤ 63) (R : D → Mt → Prop) (RX : RXt) (h : ∀ M, R (.bl true) M) : sp_law [.rol (ns.map D.int)] [] R RX := by
  unfold sp_law; exact ⟨ns, rfl, rfl, h⟩
def w_law : WS :=
  (wSeq (wAsg (wCall sp_law_pen [] RX0 (wCons (wVar 0) wNil)) (gN 1))
    (wSeq (wFor (wRng1 (wCons (wC (.int 16)) wNil)) (gN 2) (wFor (wIt (wLst (wCons (wCall sp_law_text [] RX0 (wCons (wVar 1) wNil)) (wCons (wCall sp_law_near [] RX0 (wCons (wVar 1) wNil)) (wCons (wCall sp_law_odd [] RX0 (wCons (wVar 1) wNil)) wNil))))) (gN 3) (wSeq (wAsg (wCall sp_is_name [] RX0 (wCons (wVar 3) wNil)) (gN 4))
    (wIfS (wOrT (wNotT (wTru (wCB cIsi (wCons (wVar 4) (wCons (wC (.ty "bool")) wNil))))) (wTest (wOp oNe (wVar 4) (wCall sp_law_due [] RX0 (wCons (wVar 3) wNil))))) (wRet (wC (.bl false))) wSkip))))
    (wRet (wC (.bl true)))))
theorem wp_law : ∀ ds M R RX, sp_law ds M R RX → w_law (fnEnds M.length R) (startE 5 ds) M := by
  unfold sp_law; rintro ds M R RX ⟨ns, rfl, rfl, k⟩
  walk_at "go"
  rename_i cs
  refine forL_inv (fun i env M => ∃ (a r : Int) (e2 e3 e4 : Option D), env = [some (.rol (ns.map D.int)), some (.cel 0), e2, e3, e4] ∧ M = [pen cs a r] ∧ 0 ≤ a ∧ a ≤ 100 * i ∧ 0 ≤ r) ⟨0, 0, _, _, _, rfl, rfl, by omega, by omega, by omega⟩ ?_ ?_
  · rintro i d env M hd ⟨a, r, e2, e3, e4, rfl, rfl, q1, q2, q3⟩
    have hi : i < 16 := by
      have := (List.getElem?_eq_some_iff.mp hd).1
      simp [rangeD] at this
      omega
    walk_at "go"
    · rename_i h; exact absurd trivial h
    · rename_i h; exact absurd trivial h
    · rename_i h; exact absurd trivial h
    · exact ⟨_, _, _, _, _, rfl, rfl, by omega, by omega, by omega⟩
  · rintro env M ⟨a, r, e2, e3, e4, rfl, rfl, q1, q2, q3⟩
    walk_at "go"
    exact .keep (k _)


def topS (i : Nat) : Stmt := PySem.Challenge.pw_orplaces_k02_names.main.body.getD i (.Pass ⟨0, 0, 0, 0⟩)
abbrev s_is_name : Stmt := topS 5
abbrev N_is_name : List Str := ["value", "sign"]
theorem sc_is_name : FnScope N_is_name p_is_name (defScope s_is_name) := ⟨rfl, rfl, rfl, by decide +kernel, rfl, by decide +kernel, by decide +kernel⟩
abbrev s_law_pen : Stmt := topS 7
abbrev N_law_pen : List Str := ["_law_script"]
theorem sc_law_pen : FnScope N_law_pen p_law_pen (defScope s_law_pen) := ⟨rfl, rfl, rfl, by decide +kernel, rfl, by decide +kernel, by decide +kernel⟩
abbrev s_law_draw : Stmt := topS 8
abbrev N_law_draw : List Str := ["_law_pen_here", "_law_many", "_law_at", "_law_cell", "_law_mixed", "_law_digit", "_law_great"]
theorem sc_law_draw : FnScope N_law_draw p_law_draw (defScope s_law_draw) := ⟨rfl, rfl, rfl, by decide +kernel, rfl, by decide +kernel, by decide +kernel⟩
abbrev s_law_pick : Stmt := topS 9
abbrev N_law_pick : List Str := ["_law_pen_here", "_law_some"]
theorem sc_law_pick : FnScope N_law_pick p_law_pick (defScope s_law_pick) := ⟨rfl, rfl, rfl, by decide +kernel, rfl, by decide +kernel, by decide +kernel⟩
abbrev s_law_due : Stmt := topS 10
abbrev N_law_due : List Str := ["_law_value", "_law_letters", "_law_sign"]
theorem sc_law_due : FnScope N_law_due p_law_due (defScope s_law_due) := ⟨rfl, rfl, rfl, by decide +kernel, rfl, by decide +kernel, by decide +kernel⟩
abbrev s_law_text : Stmt := topS 11
abbrev N_law_text : List Str := ["_law_pen_here", "_law_text_here", "_law_k", "_law_letters", "_law_signs", "_law_odd_here", "_law_at"]
theorem sc_law_text : FnScope N_law_text p_law_text (defScope s_law_text) := ⟨rfl, rfl, rfl, by decide +kernel, rfl, by decide +kernel, by decide +kernel⟩
abbrev s_law_near : Stmt := topS 12
abbrev N_law_near : List Str := ["_law_pen_here", "_law_word", "_law_at", "_law_menu"]
theorem sc_law_near : FnScope N_law_near p_law_near (defScope s_law_near) := ⟨rfl, rfl, rfl, by decide +kernel, rfl, by decide +kernel, by decide +kernel⟩
abbrev s_law_odd : Stmt := topS 13
abbrev N_law_odd : List Str := ["_law_pen_here", "_law_menu"]
theorem sc_law_odd : FnScope N_law_odd p_law_odd (defScope s_law_odd) := ⟨rfl, rfl, rfl, by decide +kernel, rfl, by decide +kernel, by decide +kernel⟩
abbrev s_law : Stmt := topS 14
abbrev N_law : List Str := ["_law_script", "_law_pen_here", "_law_turn", "_law_value", "_law_found"]
theorem sc_law : FnScope N_law p_law (defScope s_law) := ⟨rfl, rfl, rfl, by decide +kernel, rfl, by decide +kernel, by decide +kernel⟩
/-- what the top has written -/
structure Tx (K : PySem.W.Frag) (mg : Str → Option Value) where
  {f_is_name : Addr}
  {fd_is_name : FuncData}
  F_is_name : Fun K "is_name" "is_name" s_is_name f_is_name fd_is_name
  b_is_name : Binds K fd_is_name p_is_name []
  g_is_name : mg "is_name" = some (.ref f_is_name)
  {f_law_pen : Addr}
  {fd_law_pen : FuncData}
  F_law_pen : Fun K "_law_pen" "_law_pen" s_law_pen f_law_pen fd_law_pen
  b_law_pen : Binds K fd_law_pen p_law_pen []
  g_law_pen : mg "_law_pen" = some (.ref f_law_pen)
  {f_law_draw : Addr}
  {fd_law_draw : FuncData}
  F_law_draw : Fun K "_law_draw" "_law_draw" s_law_draw f_law_draw fd_law_draw
  b_law_draw : Binds K fd_law_draw p_law_draw []
  g_law_draw : mg "_law_draw" = some (.ref f_law_draw)
  {f_law_pick : Addr}
  {fd_law_pick : FuncData}
  F_law_pick : Fun K "_law_pick" "_law_pick" s_law_pick f_law_pick fd_law_pick
  b_law_pick : Binds K fd_law_pick p_law_pick []
  g_law_pick : mg "_law_pick" = some (.ref f_law_pick)
  {f_law_due : Addr}
  {fd_law_due : FuncData}
  F_law_due : Fun K "_law_due" "_law_due" s_law_due f_law_due fd_law_due
  b_law_due : Binds K fd_law_due p_law_due []
  g_law_due : mg "_law_due" = some (.ref f_law_due)
  {f_law_text : Addr}
  {fd_law_text : FuncData}
  F_law_text : Fun K "_law_text" "_law_text" s_law_text f_law_text fd_law_text
  b_law_text : Binds K fd_law_text p_law_text []
  g_law_text : mg "_law_text" = some (.ref f_law_text)
  {f_law_near : Addr}
  {fd_law_near : FuncData}
  F_law_near : Fun K "_law_near" "_law_near" s_law_near f_law_near fd_law_near
  b_law_near : Binds K fd_law_near p_law_near []
  g_law_near : mg "_law_near" = some (.ref f_law_near)
  {f_law_odd : Addr}
  {fd_law_odd : FuncData}
  F_law_odd : Fun K "_law_odd" "_law_odd" s_law_odd f_law_odd fd_law_odd
  b_law_odd : Binds K fd_law_odd p_law_odd []
  g_law_odd : mg "_law_odd" = some (.ref f_law_odd)
  {f_law : Addr}
  {fd_law : FuncData}
  F_law : Fun K "law" "law" s_law f_law fd_law
  b_law : Binds K fd_law p_law []
  g_law : mg "law" = some (.ref f_law)
  {t_DIGITS : Tok}
  g_DIGITS : mg "DIGITS" = some (.str "0123456789" t_DIGITS)
  {t_LETTERS : Tok}
  g_LETTERS : mg "LETTERS" = some (.str "abcdefghijklmnopqrstuvwxyz" t_LETTERS)
  {t_LONGEST : Tok}
  g_LONGEST : mg "LONGEST" = some (.int 8 t_LONGEST)
  {a_RESERVED : Addr}
  {t_RESERVED_0 t_RESERVED_1 t_RESERVED_2 t_RESERVED_3 t_RESERVED_4 : Tok}
  {od_RESERVED : Option Addr}
  {n_RESERVED : Nat}
  {sl_RESERVED : Array (Option Value)}
  g_RESERVED : mg "RESERVED" = some (.ref a_RESERVED)
  k_RESERVED : K.lookup a_RESERVED = some ⟨.type "tuple", od_RESERVED, .seq #[(.str "to" t_RESERVED_0), (.str "if" t_RESERVED_1), (.str "tag" t_RESERVED_2), (.str "all" t_RESERVED_3), (.str "none" t_RESERVED_4)] n_RESERVED, sl_RESERVED⟩
  z_abs : mg "abs" = none
  z_all : mg "all" = none
  z_bool : mg "bool" = none
  z_int : mg "int" = none
  z_isinstance : mg "isinstance" = none
  z_len : mg "len" = none
  z_list : mg "list" = none
  z_range : mg "range" = none
  z_str : mg "str" = none
section
variable {P : Program} {w : World} {K : PySem.W.Frag} {mg : Str → Option Value} {base : Heap}
theorem ok_is_name (T : Tx K mg) : FnOk P w K mg base CX0 1 T.f_is_name T.fd_is_name p_is_name (toSp K sp_is_name) :=
  dfn T.F_is_name sc_is_name len_is_name fun B cdv A outer s H E hr => ⟨w_is_name,
    (ds_cons (d_if (L2.PW.pt (d_or (d_not (d_truth (d_callB call_isi cIsi_ok (by rfl) T.z_isinstance (by decide +kernel) (da_cons (d_var (i := 0)) (da_cons (d_ty T.z_str (by decide +kernel)) da_nil))))) (d_or (d_not (d_chainT op_le oLe_ok op_le oLe_ok d_int (d_callB callLen cLen_ok (by rfl) T.z_len (by decide +kernel) (da_cons (d_var (i := 0)) da_nil)) (d_gint T.g_LONGEST))) (d_or1 (d_cmpT opIn oIn_ok (d_var (i := 0)) (d_gtup T.g_RESERVED T.k_RESERVED rfl rfl (Nat.le_of_ble_eq_true rfl) rfl) (by rfl)))))) (ds_one (d_ret d_bl)) ds_nil)
    (ds_one (d_ret (d_andV (d_cmp opIn oIn_ok (d_ix (d_var (i := 0)) d_int) (d_gstr T.g_LETTERS) (by rfl)) (d_one (d_callB (cr_all rfl) cAll_ok (by rfl) T.z_all (by decide +kernel) (da_cons (d_lc (own := [("sign", 1)]) rfl sc_is_name.nd (di_any (d_var (i := 0))) (blkOk_by (by show blkC N_is_name (defScope s_is_name) _ _ = true; decide +kernel)) (fun _ _ _ _ _ => pg_name (i := 1) sc_is_name.nd rfl (Or.inl rfl)) (binds_one (by decide)) (fun _ _ _ _ _ => dts_nil) (fun _ _ _ _ _ => (d_orV (d_cmp opIn oIn_ok (d_var (i := 1)) (d_gstr T.g_LETTERS) (by rfl)) (d_one (d_cmp opIn oIn_ok (d_var (i := 1)) (d_gstr T.g_DIGITS) (by rfl)))))) da_nil))))))),
    wp_is_name⟩
theorem ok_law_pen (T : Tx K mg) : FnOk P w K mg base CX0 1 T.f_law_pen T.fd_law_pen p_law_pen (toSp K sp_law_pen) :=
  dfn T.F_law_pen sc_law_pen len_law_pen fun B cdv A outer s H E hr => ⟨w_law_pen,
    (ds_one (d_ret (d_lstM (da_cons (d_callTy call_list_of cList_ok (by rfl) T.z_list (by decide +kernel) (da_cons (d_sl (d_var (i := 0)) do_none (do_some d_int)) da_nil)) (da_cons d_int (da_cons d_int da_nil)))))),
    wp_law_pen⟩
theorem ok_law_draw (T : Tx K mg) : FnOk P w K mg base CX0 1 T.f_law_draw T.fd_law_draw p_law_draw (toSp K sp_law_draw) :=
  dfn T.F_law_draw sc_law_draw len_law_draw fun B cdv A outer s H E hr => ⟨w_law_draw,
    (ds_cons (d_if (d_cmpT op_gt oGt_ok (d_ix (d_var (i := 0)) d_int) d_int (nomark _)) (ds_cons (d_set (i := 5) sc_law_draw.nd (d_op op_mod oMod_ok (d_callTy call_int1 cInt_ok (by rfl) T.z_int (by decide +kernel) (da_cons (d_ix (d_var (i := 0)) d_int) da_nil)) (d_var (i := 1))))
    (ds_cons (d_asg (d_op op_fdivW oFdiv_ok (d_ix (d_var (i := 0)) d_int) (d_var (i := 1))) (dg_ixL (d_var (i := 0)) d_int))
    (ds_one (d_ret (d_var (i := 5)))))) ds_nil)
    (ds_cons (d_set (i := 2) sc_law_draw.nd (d_ix (d_var (i := 0)) d_int))
    (ds_cons (d_asg (d_op opAdd oAdd_ok (d_var (i := 2)) d_int) (dg_ixL (d_var (i := 0)) d_int))
    (ds_cons (d_set (i := 3) sc_law_draw.nd (d_op opAdd oAdd_ok (d_op opMul oMul_ok d_int (d_var (i := 2))) d_int))
    (ds_cons (d_if (d_cmpT (opNe hr.units) oNe_ok (d_ix (d_var (i := 0)) d_int) (d_lst da_nil) (nomark _)) (ds_one (d_set (i := 3) sc_law_draw.nd (d_ix (d_ix (d_var (i := 0)) d_int) (d_op op_mod oMod_ok (d_callTy call_int1 cInt_ok (by rfl) T.z_int (by decide +kernel) (da_cons (d_var (i := 2)) da_nil)) (d_callB callLen cLen_ok (by rfl) T.z_len (by decide +kernel) (da_cons (d_ix (d_var (i := 0)) d_int) da_nil)))))) ds_nil)
    (ds_cons (d_if (L2.PW.pt (d_and (d_cmpT op_lt oLt_ok (d_var (i := 2)) (d_callB callLen cLen_ok (by rfl) T.z_len (by decide +kernel) (da_cons (d_ix (d_var (i := 0)) d_int) da_nil)) (nomark _)) (d_and1 (d_cmpT op_ge oGe_ok (d_callB call_abs cAbs_ok (by rfl) T.z_abs (by decide +kernel) (da_cons (d_var (i := 3)) da_nil)) (d_op op_pow oPow_ok d_int d_int) (nomark _))))) (ds_cons (d_set (i := 6) sc_law_draw.nd (d_op opAdd oAdd_ok (d_op opMul oMul_ok d_int (d_op op_sub oSub_ok (d_callB call_abs cAbs_ok (by rfl) T.z_abs (by decide +kernel) (da_cons (d_var (i := 3)) da_nil)) (d_op op_pow oPow_ok d_int d_int))) (d_callTy call_int1 cInt_ok (by rfl) T.z_int (by decide +kernel) (da_cons (d_cmp op_lt oLt_ok (d_var (i := 3)) d_int (nomark _)) da_nil))))
    (ds_cons (d_asg (d_op op_fdivW oFdiv_ok (d_var (i := 6)) (d_var (i := 1))) (dg_ixL (d_var (i := 0)) d_int))
    (ds_one (d_ret (d_op op_mod oMod_ok (d_callTy call_int1 cInt_ok (by rfl) T.z_int (by decide +kernel) (da_cons (d_var (i := 6)) da_nil)) (d_var (i := 1))))))) ds_nil)
    (ds_cons (d_set (i := 4) sc_law_draw.nd (d_op op_mod oMod_ok (d_callTy call_int1 cInt_ok (by rfl) T.z_int (by decide +kernel) (da_cons (d_op op_pow oPow_ok (d_op opAdd oAdd_ok (d_op opAdd oAdd_ok (d_op op_mod oMod_ok (d_callTy call_int1 cInt_ok (by rfl) T.z_int (by decide +kernel) (da_cons (d_var (i := 3)) da_nil)) d_int) (d_op opMul oMul_ok d_int (d_var (i := 2)))) d_int) d_int) da_nil)) d_int))
    (ds_cons (d_set (i := 4) sc_law_draw.nd (d_op op_mod oMod_ok (d_callTy call_int1 cInt_ok (by rfl) T.z_int (by decide +kernel) (da_cons (d_op op_pow oPow_ok (d_op opAdd oAdd_ok (d_op opAdd oAdd_ok (d_op opMul oMul_ok (d_var (i := 4)) (d_op opAdd oAdd_ok (d_op opMul oMul_ok d_int (d_var (i := 2))) d_int)) (d_op opMul oMul_ok (d_op opMul oMul_ok d_int (d_var (i := 2))) (d_var (i := 2)))) d_int) d_int) da_nil)) d_int))
    (ds_one (d_ret (d_op op_mod oMod_ok (d_callTy call_int1 cInt_ok (by rfl) T.z_int (by decide +kernel) (da_cons (d_op op_fdivW oFdiv_ok (d_var (i := 4)) d_int) da_nil)) (d_var (i := 1))))))))))))),
    wp_law_draw⟩
theorem ok_law_pick (T : Tx K mg) : FnOk P w K mg base CX0 2 T.f_law_pick T.fd_law_pick p_law_pick (toSp K sp_law_pick) :=
  dfn T.F_law_pick sc_law_pick len_law_pick fun B cdv A outer s H E hr => ⟨w_law_pick,
    (ds_one (d_ret (d_ix (d_var (i := 1)) (d_call (ok_law_draw T) (hr.mono (by decide)) (by rfl) T.g_law_draw T.F_law_draw.kp T.b_law_draw .nil (fun _ _ => .nil) (da_cons (d_var (i := 0)) (da_cons (d_callB callLen cLen_ok (by rfl) T.z_len (by decide +kernel) (da_cons (d_var (i := 1)) da_nil)) da_nil)))))),
    wp_law_pick⟩
theorem ok_law_due (T : Tx K mg) : FnOk P w K mg base CX0 1 T.f_law_due T.fd_law_due p_law_due (toSp K sp_law_due) :=
  dfn T.F_law_due sc_law_due len_law_due fun B cdv A outer s H E hr => ⟨w_law_due,
    (ds_cons (d_if (L2.PW.pt (d_or (d_not (d_truth (d_callB call_isi cIsi_ok (by rfl) T.z_isinstance (by decide +kernel) (da_cons (d_var (i := 0)) (da_cons (d_ty T.z_str (by decide +kernel)) da_nil))))) (d_or (d_cmpT opIn oIn_ok (d_var (i := 0)) (d_lst (da_cons d_str (da_cons d_str (da_cons d_str (da_cons d_str (da_cons d_str (da_cons d_str da_nil))))))) (by rfl)) (d_or1 (d_cmpT op_gt oGt_ok (d_callB callLen cLen_ok (by rfl) T.z_len (by decide +kernel) (da_cons (d_var (i := 0)) da_nil)) d_int (nomark _)))))) (ds_one (d_ret d_bl)) ds_nil)
    (ds_cons (d_set (i := 1) sc_law_due.nd d_str)
    (ds_one (d_ret (d_andV (d_cmp opIn oIn_ok (d_ix (d_var (i := 0)) d_int) (d_var (i := 1)) (by rfl)) (d_one (d_cmp (opEq hr.units) oEq_ok (d_lc (own := [("_law_sign", 2)]) rfl sc_law_due.nd (di_any (d_var (i := 0))) (blkOk_by (by show blkC N_law_due (defScope s_law_due) _ _ = true; decide +kernel)) (fun _ _ _ _ _ => pg_name (i := 2) sc_law_due.nd rfl (Or.inl rfl)) (binds_one (by decide)) (fun _ _ _ _ _ => (dts_one (d_cmpT opNotIn oIn_ok (d_var (i := 2)) (d_op opAdd oAdd_ok (d_var (i := 1)) d_str) (by rfl)))) (fun _ _ _ _ _ => (d_var (i := 2)))) (d_lst da_nil) (nomark _)))))))),
    wp_law_due⟩
theorem ok_law_text (T : Tx K mg) : FnOk P w K mg base CX0 2 T.f_law_text T.fd_law_text p_law_text (toSp K sp_law_text) :=
  dfn T.F_law_text sc_law_text len_law_text fun B cdv A outer s H E hr => ⟨w_law_text,
    (ds_cons (d_asg (d_tup (da_cons d_str (da_cons d_str da_nil))) (dg_tup rfl (dgs_cons (dg_name (i := 3) sc_law_text.nd) (dgs_cons (dg_name (i := 4) sc_law_text.nd) dgs_nil))))
    (ds_cons (d_set (i := 1) sc_law_text.nd (d_ifE (d_cmpT (opEq hr.units) oEq_ok (d_call (ok_law_draw T) (hr.mono (by decide)) (by rfl) T.g_law_draw T.F_law_draw.kp T.b_law_draw .nil (fun _ _ => .nil) (da_cons (d_var (i := 0)) (da_cons d_int da_nil))) d_int (nomark _)) d_str (d_ix (d_var (i := 3)) (d_call (ok_law_draw T) (hr.mono (by decide)) (by rfl) T.g_law_draw T.F_law_draw.kp T.b_law_draw .nil (fun _ _ => .nil) (da_cons (d_var (i := 0)) (da_cons d_int da_nil))))))
    (ds_cons (d_for PassesOwn.never rfl (di_range1 (by rfl) T.z_range (da_cons (d_call (ok_law_draw T) (hr.mono (by decide)) (by rfl) T.g_law_draw T.F_law_draw.kp T.b_law_draw .nil (fun _ _ => .nil) (da_cons (d_var (i := 0)) (da_cons d_int da_nil))) da_nil)) (dg_name (i := 2) sc_law_text.nd) (ds_one (d_set (i := 1) sc_law_text.nd (d_op opAdd oAdd_ok (d_var (i := 1)) (d_ix (d_var (i := 4)) (d_call (ok_law_draw T) (hr.mono (by decide)) (by rfl) T.g_law_draw T.F_law_draw.kp T.b_law_draw .nil (fun _ _ => .nil) (da_cons (d_var (i := 0)) (da_cons d_int da_nil))))))))
    (ds_cons (d_if (d_cmpT (opEq hr.units) oEq_ok (d_call (ok_law_draw T) (hr.mono (by decide)) (by rfl) T.g_law_draw T.F_law_draw.kp T.b_law_draw .nil (fun _ _ => .nil) (da_cons (d_var (i := 0)) (da_cons d_int da_nil))) d_int (nomark _)) (ds_cons (d_set (i := 5) sc_law_text.nd d_str)
    (ds_cons (d_set (i := 6) sc_law_text.nd (d_call (ok_law_draw T) (hr.mono (by decide)) (by rfl) T.g_law_draw T.F_law_draw.kp T.b_law_draw .nil (fun _ _ => .nil) (da_cons (d_var (i := 0)) (da_cons (d_op opAdd oAdd_ok (d_callB callLen cLen_ok (by rfl) T.z_len (by decide +kernel) (da_cons (d_var (i := 1)) da_nil)) d_int) da_nil))))
    (ds_one (d_set (i := 1) sc_law_text.nd (d_op opAdd oAdd_ok (d_op opAdd oAdd_ok (d_sl (d_var (i := 1)) do_none (do_some (d_var (i := 6)))) (d_ix (d_var (i := 5)) (d_call (ok_law_draw T) (hr.mono (by decide)) (by rfl) T.g_law_draw T.F_law_draw.kp T.b_law_draw .nil (fun _ _ => .nil) (da_cons (d_var (i := 0)) (da_cons (d_callB callLen cLen_ok (by rfl) T.z_len (by decide +kernel) (da_cons (d_var (i := 5)) da_nil)) da_nil))))) (d_sl (d_var (i := 1)) (do_some (d_op opAdd oAdd_ok (d_var (i := 6)) (d_call (ok_law_draw T) (hr.mono (by decide)) (by rfl) T.g_law_draw T.F_law_draw.kp T.b_law_draw .nil (fun _ _ => .nil) (da_cons (d_var (i := 0)) (da_cons d_int da_nil))))) do_none)))))) ds_nil)
    (ds_one (d_ret (d_var (i := 1)))))))),
    wp_law_text⟩
theorem ok_law_near (T : Tx K mg) : FnOk P w K mg base CX0 3 T.f_law_near T.fd_law_near p_law_near (toSp K sp_law_near) :=
  dfn T.F_law_near sc_law_near len_law_near fun B cdv A outer s H E hr => ⟨w_law_near,
    (ds_cons (d_set (i := 1) sc_law_near.nd (d_call (ok_law_pick T) (hr.mono (by decide)) (by rfl) T.g_law_pick T.F_law_pick.kp T.b_law_pick .nil (fun _ _ => .nil) (da_cons (d_var (i := 0)) (da_cons (d_lst (da_cons d_str (da_cons d_str (da_cons d_str (da_cons d_str (da_cons d_str da_nil)))))) da_nil))))
    (ds_cons (d_set (i := 2) sc_law_near.nd (d_call (ok_law_draw T) (hr.mono (by decide)) (by rfl) T.g_law_draw T.F_law_draw.kp T.b_law_draw .nil (fun _ _ => .nil) (da_cons (d_var (i := 0)) (da_cons (d_callB callLen cLen_ok (by rfl) T.z_len (by decide +kernel) (da_cons (d_var (i := 1)) da_nil)) da_nil))))
    (ds_cons (d_set (i := 3) sc_law_near.nd (d_lst (da_cons (d_var (i := 1)) (da_cons (d_op opAdd oAdd_ok (d_var (i := 1)) d_str) (da_cons (d_op opAdd oAdd_ok d_str (d_var (i := 1))) (da_cons (d_op opAdd oAdd_ok (d_sl (d_var (i := 1)) do_none (do_some (d_var (i := 2)))) (d_sl (d_var (i := 1)) (do_some (d_op opAdd oAdd_ok (d_var (i := 2)) d_int)) do_none)) (da_cons (d_op opAdd oAdd_ok (d_op opAdd oAdd_ok (d_sl (d_var (i := 1)) do_none (do_some (d_var (i := 2)))) d_str) (d_sl (d_var (i := 1)) (do_some (d_op opAdd oAdd_ok (d_var (i := 2)) d_int)) do_none)) (da_cons (d_op opAdd oAdd_ok (d_var (i := 1)) d_str) da_nil))))))))
    (ds_one (d_ret (d_call (ok_law_pick T) (hr.mono (by decide)) (by rfl) T.g_law_pick T.F_law_pick.kp T.b_law_pick .nil (fun _ _ => .nil) (da_cons (d_var (i := 0)) (da_cons (d_op opAdd oAdd_ok (d_var (i := 3)) (d_lst (da_cons (d_op opAdd oAdd_ok d_str (d_var (i := 1))) (da_cons (d_op opAdd oAdd_ok (d_var (i := 1)) (d_var (i := 1))) (da_cons (d_op opAdd oAdd_ok (d_var (i := 1)) d_str) (da_cons (d_op opAdd oAdd_ok d_str (d_var (i := 1))) da_nil)))))) da_nil)))))))),
    wp_law_near⟩
theorem ok_law_odd (T : Tx K mg) : FnOk P w K mg base CX0 3 T.f_law_odd T.fd_law_odd p_law_odd (toSp K sp_law_odd) :=
  dfn T.F_law_odd sc_law_odd len_law_odd fun B cdv A outer s H E hr => ⟨w_law_odd,
    (ds_cons (d_set (i := 1) sc_law_odd.nd (d_lst (da_cons d_non (da_cons d_bl (da_cons d_bl (da_cons d_int (da_cons d_int (da_cons (d_op op_pow oPow_ok d_int d_int) (da_cons (d_tup da_nil) (da_cons (d_tup (da_cons d_str da_nil)) (da_cons (d_lst (da_cons d_str da_nil)) (da_cons (d_dict0 false) (da_cons (d_disp (ws := [((wC (.str "a")), (wC (.int 1)))]) (pps_cons d_str d_int pps_nil) rfl rfl (fun z => by cases z) (by decide)) (da_cons (d_op opMul oMul_ok d_str d_int) (da_cons (d_op opMul oMul_ok d_str d_int) (da_cons (d_op opMul oMul_ok d_str d_int) (da_cons d_str da_nil)))))))))))))))))
    (ds_one (d_ret (d_call (ok_law_pick T) (hr.mono (by decide)) (by rfl) T.g_law_pick T.F_law_pick.kp T.b_law_pick .nil (fun _ _ => .nil) (da_cons (d_var (i := 0)) (da_cons (d_op opAdd oAdd_ok (d_var (i := 1)) (d_lst (da_cons (d_op opMul oMul_ok d_str (d_call (ok_law_draw T) (hr.mono (by decide)) (by rfl) T.g_law_draw T.F_law_draw.kp T.b_law_draw .nil (fun _ _ => .nil) (da_cons (d_var (i := 0)) (da_cons d_int da_nil)))) (da_cons d_str (da_cons d_str (da_cons (d_lst (da_cons (d_lst da_nil) da_nil)) (da_cons (d_tup (da_cons (d_tup da_nil) (da_cons (d_tup da_nil) da_nil))) da_nil))))))) da_nil)))))),
    wp_law_odd⟩
theorem ok_law (T : Tx K mg) : FnOk P w K mg base CX0 4 T.f_law T.fd_law p_law (toSp K sp_law) :=
  dfn T.F_law sc_law len_law fun B cdv A outer s H E hr => ⟨w_law,
    (ds_cons (d_set (i := 1) sc_law.nd (d_call (ok_law_pen T) (hr.mono (by decide)) (by rfl) T.g_law_pen T.F_law_pen.kp T.b_law_pen .nil (fun _ _ => .nil) (da_cons (d_var (i := 0)) da_nil)))
    (ds_cons (d_for PassesOwn.never rfl (di_range1 (by rfl) T.z_range (da_cons d_int da_nil)) (dg_name (i := 2) sc_law.nd) (ds_one (d_for PassesOwn.never rfl (di_any (d_lst (da_cons (d_call (ok_law_text T) (hr.mono (by decide)) (by rfl) T.g_law_text T.F_law_text.kp T.b_law_text .nil (fun _ _ => .nil) (da_cons (d_var (i := 1)) da_nil)) (da_cons (d_call (ok_law_near T) (hr.mono (by decide)) (by rfl) T.g_law_near T.F_law_near.kp T.b_law_near .nil (fun _ _ => .nil) (da_cons (d_var (i := 1)) da_nil)) (da_cons (d_call (ok_law_odd T) (hr.mono (by decide)) (by rfl) T.g_law_odd T.F_law_odd.kp T.b_law_odd .nil (fun _ _ => .nil) (da_cons (d_var (i := 1)) da_nil)) da_nil))))) (dg_name (i := 3) sc_law.nd) (ds_cons (d_set (i := 4) sc_law.nd (d_call (ok_is_name T) (hr.mono (by decide)) (by rfl) T.g_is_name T.F_is_name.kp T.b_is_name .nil (fun _ _ => .nil) (da_cons (d_var (i := 3)) da_nil)))
    (ds_one (d_if (L2.PW.pt (d_or (d_not (d_truth (d_callB call_isi cIsi_ok (by rfl) T.z_isinstance (by decide +kernel) (da_cons (d_var (i := 4)) (da_cons (d_ty T.z_bool (by decide +kernel)) da_nil))))) (d_or1 (d_cmpT (opNe hr.units) oNe_ok (d_var (i := 4)) (d_call (ok_law_due T) (hr.mono (by decide)) (by rfl) T.g_law_due T.F_law_due.kp T.b_law_due .nil (fun _ _ => .nil) (da_cons (d_var (i := 3)) da_nil)) (nomark _))))) (ds_one (d_ret d_bl)) ds_nil))))))
    (ds_one (d_ret d_bl)))),
    wp_law⟩
end
theorem all_mk {l : PySem.W.OpenLaw} {w : World} {K : PySem.W.Frag} {h : Heap} {mg : Str → Option Value} {fa : Addr} (X : K.In h) (G : h.Ns mainGlobals mg) (hfa : mg "law" = some (.ref fa))
    {f_is_name : Addr} {oc_is_name kV_is_name dc_is_name pm_is_name cd_is_name ct_is_name : Value} {od_is_name an_is_name : Option Addr} {sl_is_name : Array (Option Value)}
    (a_is_name : PySem.W.nsIn K mainGlobals "is_name" = some (some (.ref f_is_name))) (l_is_name : K.lookup f_is_name = some ⟨oc_is_name, od_is_name, .func (PySem.W.fnOf "is_name" "is_name" (defArgs s_is_name) (defBody s_is_name) (defScope s_is_name) .none kV_is_name dc_is_name pm_is_name an_is_name cd_is_name ct_is_name), sl_is_name⟩) (c_is_name : PySem.W.codeIn K cd_is_name "is_name" = true) (k_is_name : PySem.W.keepIn K (.ref f_is_name) = true)
    {f_law_pen : Addr} {oc_law_pen kV_law_pen dc_law_pen pm_law_pen cd_law_pen ct_law_pen : Value} {od_law_pen an_law_pen : Option Addr} {sl_law_pen : Array (Option Value)}
    (a_law_pen : PySem.W.nsIn K mainGlobals "_law_pen" = some (some (.ref f_law_pen))) (l_law_pen : K.lookup f_law_pen = some ⟨oc_law_pen, od_law_pen, .func (PySem.W.fnOf "_law_pen" "_law_pen" (defArgs s_law_pen) (defBody s_law_pen) (defScope s_law_pen) .none kV_law_pen dc_law_pen pm_law_pen an_law_pen cd_law_pen ct_law_pen), sl_law_pen⟩) (c_law_pen : PySem.W.codeIn K cd_law_pen "_law_pen" = true) (k_law_pen : PySem.W.keepIn K (.ref f_law_pen) = true)
    {f_law_draw : Addr} {oc_law_draw kV_law_draw dc_law_draw pm_law_draw cd_law_draw ct_law_draw : Value} {od_law_draw an_law_draw : Option Addr} {sl_law_draw : Array (Option Value)}
    (a_law_draw : PySem.W.nsIn K mainGlobals "_law_draw" = some (some (.ref f_law_draw))) (l_law_draw : K.lookup f_law_draw = some ⟨oc_law_draw, od_law_draw, .func (PySem.W.fnOf "_law_draw" "_law_draw" (defArgs s_law_draw) (defBody s_law_draw) (defScope s_law_draw) .none kV_law_draw dc_law_draw pm_law_draw an_law_draw cd_law_draw ct_law_draw), sl_law_draw⟩) (c_law_draw : PySem.W.codeIn K cd_law_draw "_law_draw" = true) (k_law_draw : PySem.W.keepIn K (.ref f_law_draw) = true)
    {f_law_pick : Addr} {oc_law_pick kV_law_pick dc_law_pick pm_law_pick cd_law_pick ct_law_pick : Value} {od_law_pick an_law_pick : Option Addr} {sl_law_pick : Array (Option Value)}
    (a_law_pick : PySem.W.nsIn K mainGlobals "_law_pick" = some (some (.ref f_law_pick))) (l_law_pick : K.lookup f_law_pick = some ⟨oc_law_pick, od_law_pick, .func (PySem.W.fnOf "_law_pick" "_law_pick" (defArgs s_law_pick) (defBody s_law_pick) (defScope s_law_pick) .none kV_law_pick dc_law_pick pm_law_pick an_law_pick cd_law_pick ct_law_pick), sl_law_pick⟩) (c_law_pick : PySem.W.codeIn K cd_law_pick "_law_pick" = true) (k_law_pick : PySem.W.keepIn K (.ref f_law_pick) = true)
    {f_law_due : Addr} {oc_law_due kV_law_due dc_law_due pm_law_due cd_law_due ct_law_due : Value} {od_law_due an_law_due : Option Addr} {sl_law_due : Array (Option Value)}
    (a_law_due : PySem.W.nsIn K mainGlobals "_law_due" = some (some (.ref f_law_due))) (l_law_due : K.lookup f_law_due = some ⟨oc_law_due, od_law_due, .func (PySem.W.fnOf "_law_due" "_law_due" (defArgs s_law_due) (defBody s_law_due) (defScope s_law_due) .none kV_law_due dc_law_due pm_law_due an_law_due cd_law_due ct_law_due), sl_law_due⟩) (c_law_due : PySem.W.codeIn K cd_law_due "_law_due" = true) (k_law_due : PySem.W.keepIn K (.ref f_law_due) = true)
    {f_law_text : Addr} {oc_law_text kV_law_text dc_law_text pm_law_text cd_law_text ct_law_text : Value} {od_law_text an_law_text : Option Addr} {sl_law_text : Array (Option Value)}
    (a_law_text : PySem.W.nsIn K mainGlobals "_law_text" = some (some (.ref f_law_text))) (l_law_text : K.lookup f_law_text = some ⟨oc_law_text, od_law_text, .func (PySem.W.fnOf "_law_text" "_law_text" (defArgs s_law_text) (defBody s_law_text) (defScope s_law_text) .none kV_law_text dc_law_text pm_law_text an_law_text cd_law_text ct_law_text), sl_law_text⟩) (c_law_text : PySem.W.codeIn K cd_law_text "_law_text" = true) (k_law_text : PySem.W.keepIn K (.ref f_law_text) = true)
    {f_law_near : Addr} {oc_law_near kV_law_near dc_law_near pm_law_near cd_law_near ct_law_near : Value} {od_law_near an_law_near : Option Addr} {sl_law_near : Array (Option Value)}
    (a_law_near : PySem.W.nsIn K mainGlobals "_law_near" = some (some (.ref f_law_near))) (l_law_near : K.lookup f_law_near = some ⟨oc_law_near, od_law_near, .func (PySem.W.fnOf "_law_near" "_law_near" (defArgs s_law_near) (defBody s_law_near) (defScope s_law_near) .none kV_law_near dc_law_near pm_law_near an_law_near cd_law_near ct_law_near), sl_law_near⟩) (c_law_near : PySem.W.codeIn K cd_law_near "_law_near" = true) (k_law_near : PySem.W.keepIn K (.ref f_law_near) = true)
    {f_law_odd : Addr} {oc_law_odd kV_law_odd dc_law_odd pm_law_odd cd_law_odd ct_law_odd : Value} {od_law_odd an_law_odd : Option Addr} {sl_law_odd : Array (Option Value)}
    (a_law_odd : PySem.W.nsIn K mainGlobals "_law_odd" = some (some (.ref f_law_odd))) (l_law_odd : K.lookup f_law_odd = some ⟨oc_law_odd, od_law_odd, .func (PySem.W.fnOf "_law_odd" "_law_odd" (defArgs s_law_odd) (defBody s_law_odd) (defScope s_law_odd) .none kV_law_odd dc_law_odd pm_law_odd an_law_odd cd_law_odd ct_law_odd), sl_law_odd⟩) (c_law_odd : PySem.W.codeIn K cd_law_odd "_law_odd" = true) (k_law_odd : PySem.W.keepIn K (.ref f_law_odd) = true)
    {f_law : Addr} {oc_law kV_law dc_law pm_law cd_law ct_law : Value} {od_law an_law : Option Addr} {sl_law : Array (Option Value)}
    (a_law : PySem.W.nsIn K mainGlobals "law" = some (some (.ref f_law))) (l_law : K.lookup f_law = some ⟨oc_law, od_law, .func (PySem.W.fnOf "law" "law" (defArgs s_law) (defBody s_law) (defScope s_law) .none kV_law dc_law pm_law an_law cd_law ct_law), sl_law⟩) (c_law : PySem.W.codeIn K cd_law "law" = true) (k_law : PySem.W.keepIn K (.ref f_law) = true)
    {t_DIGITS : Tok} (g_DIGITS : PySem.W.nsIn K mainGlobals "DIGITS" = some (some (.str "0123456789" t_DIGITS)))
    {t_LETTERS : Tok} (g_LETTERS : PySem.W.nsIn K mainGlobals "LETTERS" = some (some (.str "abcdefghijklmnopqrstuvwxyz" t_LETTERS)))
    {t_LONGEST : Tok} (g_LONGEST : PySem.W.nsIn K mainGlobals "LONGEST" = some (some (.int 8 t_LONGEST)))
    {a_RESERVED : Addr} {t_RESERVED_0 t_RESERVED_1 t_RESERVED_2 t_RESERVED_3 t_RESERVED_4 : Tok} {od_RESERVED : Option Addr} {n_RESERVED : Nat} {sl_RESERVED : Array (Option Value)}
    (g_RESERVED : PySem.W.nsIn K mainGlobals "RESERVED" = some (some (.ref a_RESERVED))) (k_RESERVED : K.lookup a_RESERVED = some ⟨.type "tuple", od_RESERVED, .seq #[(.str "to" t_RESERVED_0), (.str "if" t_RESERVED_1), (.str "tag" t_RESERVED_2), (.str "all" t_RESERVED_3), (.str "none" t_RESERVED_4)] n_RESERVED, sl_RESERVED⟩)
    (z_abs : PySem.W.nsIn K mainGlobals "abs" = some none)
    (z_all : PySem.W.nsIn K mainGlobals "all" = some none)
    (z_bool : PySem.W.nsIn K mainGlobals "bool" = some none)
    (z_int : PySem.W.nsIn K mainGlobals "int" = some none)
    (z_isinstance : PySem.W.nsIn K mainGlobals "isinstance" = some none)
    (z_len : PySem.W.nsIn K mainGlobals "len" = some none)
    (z_list : PySem.W.nsIn K mainGlobals "list" = some none)
    (z_range : PySem.W.nsIn K mainGlobals "range" = some none)
    (z_str : PySem.W.nsIn K mainGlobals "str" = some none)
    : ∃ fd : FuncData, (∀ (s : Shared) (v : Value), BindsTo s fd ⟨[v], []⟩ [("_law_script", v)]) ∧ ∀ base : Heap, K.In base → base.Ns mainGlobals mg → FnOk l.prog w K mg base CX0 4 fa fd p_law (toSp K sp_law) := by
  have e := hfa.symm.trans (PySem.W.mg_of X G a_law)
  cases e
  have F_is_name := fun_mk (st := s_is_name) l_is_name c_is_name k_is_name
  have b_is_name := F_is_name.binds (ps := p_is_name) fun _ _ _ _ _ _ us hl => match us, hl with | [_], _ => rfl
  have F_law_pen := fun_mk (st := s_law_pen) l_law_pen c_law_pen k_law_pen
  have b_law_pen := F_law_pen.binds (ps := p_law_pen) fun _ _ _ _ _ _ us hl => match us, hl with | [_], _ => rfl
  have F_law_draw := fun_mk (st := s_law_draw) l_law_draw c_law_draw k_law_draw
  have b_law_draw := F_law_draw.binds (ps := p_law_draw) fun _ _ _ _ _ _ us hl => match us, hl with | [_, _], _ => rfl
  have F_law_pick := fun_mk (st := s_law_pick) l_law_pick c_law_pick k_law_pick
  have b_law_pick := F_law_pick.binds (ps := p_law_pick) fun _ _ _ _ _ _ us hl => match us, hl with | [_, _], _ => rfl
  have F_law_due := fun_mk (st := s_law_due) l_law_due c_law_due k_law_due
  have b_law_due := F_law_due.binds (ps := p_law_due) fun _ _ _ _ _ _ us hl => match us, hl with | [_], _ => rfl
  have F_law_text := fun_mk (st := s_law_text) l_law_text c_law_text k_law_text
  have b_law_text := F_law_text.binds (ps := p_law_text) fun _ _ _ _ _ _ us hl => match us, hl with | [_], _ => rfl
  have F_law_near := fun_mk (st := s_law_near) l_law_near c_law_near k_law_near
  have b_law_near := F_law_near.binds (ps := p_law_near) fun _ _ _ _ _ _ us hl => match us, hl with | [_], _ => rfl
  have F_law_odd := fun_mk (st := s_law_odd) l_law_odd c_law_odd k_law_odd
  have b_law_odd := F_law_odd.binds (ps := p_law_odd) fun _ _ _ _ _ _ us hl => match us, hl with | [_], _ => rfl
  have F_law := fun_mk (st := s_law) l_law c_law k_law
  have b_law := F_law.binds (ps := p_law) fun _ _ _ _ _ _ us hl => match us, hl with | [_], _ => rfl
  have T : Tx K mg := { F_is_name := F_is_name, b_is_name := b_is_name, g_is_name := PySem.W.mg_of X G a_is_name, F_law_pen := F_law_pen, b_law_pen := b_law_pen, g_law_pen := PySem.W.mg_of X G a_law_pen, F_law_draw := F_law_draw, b_law_draw := b_law_draw, g_law_draw := PySem.W.mg_of X G a_law_draw, F_law_pick := F_law_pick, b_law_pick := b_law_pick, g_law_pick := PySem.W.mg_of X G a_law_pick, F_law_due := F_law_due, b_law_due := b_law_due, g_law_due := PySem.W.mg_of X G a_law_due, F_law_text := F_law_text, b_law_text := b_law_text, g_law_text := PySem.W.mg_of X G a_law_text, F_law_near := F_law_near, b_law_near := b_law_near, g_law_near := PySem.W.mg_of X G a_law_near, F_law_odd := F_law_odd, b_law_odd := b_law_odd, g_law_odd := PySem.W.mg_of X G a_law_odd, F_law := F_law, b_law := b_law, g_law := PySem.W.mg_of X G a_law, g_DIGITS := PySem.W.mg_of X G g_DIGITS, g_LETTERS := PySem.W.mg_of X G g_LETTERS, g_LONGEST := PySem.W.mg_of X G g_LONGEST, g_RESERVED := PySem.W.mg_of X G g_RESERVED, k_RESERVED := k_RESERVED, z_abs := PySem.W.mg_none_of X G z_abs, z_all := PySem.W.mg_none_of X G z_all, z_bool := PySem.W.mg_none_of X G z_bool, z_int := PySem.W.mg_none_of X G z_int, z_isinstance := PySem.W.mg_none_of X G z_isinstance, z_len := PySem.W.mg_none_of X G z_len, z_list := PySem.W.mg_none_of X G z_list, z_range := PySem.W.mg_none_of X G z_range, z_str := PySem.W.mg_none_of X G z_str }
  exact ⟨_, fun s v => .of_eq rfl, fun base _ _ => ok_law { F_is_name := F_is_name, b_is_name := b_is_name, g_is_name := PySem.W.mg_of X G a_is_name, F_law_pen := F_law_pen, b_law_pen := b_law_pen, g_law_pen := PySem.W.mg_of X G a_law_pen, F_law_draw := F_law_draw, b_law_draw := b_law_draw, g_law_draw := PySem.W.mg_of X G a_law_draw, F_law_pick := F_law_pick, b_law_pick := b_law_pick, g_law_pick := PySem.W.mg_of X G a_law_pick, F_law_due := F_law_due, b_law_due := b_law_due, g_law_due := PySem.W.mg_of X G a_law_due, F_law_text := F_law_text, b_law_text := b_law_text, g_law_text := PySem.W.mg_of X G a_law_text, F_law_near := F_law_near, b_law_near := b_law_near, g_law_near := PySem.W.mg_of X G a_law_near, F_law_odd := F_law_odd, b_law_odd := b_law_odd, g_law_odd := PySem.W.mg_of X G a_law_odd, F_law := F_law, b_law := b_law, g_law := PySem.W.mg_of X G a_law, g_DIGITS := PySem.W.mg_of X G g_DIGITS, g_LETTERS := PySem.W.mg_of X G g_LETTERS, g_LONGEST := PySem.W.mg_of X G g_LONGEST, g_RESERVED := PySem.W.mg_of X G g_RESERVED, k_RESERVED := k_RESERVED, z_abs := PySem.W.mg_none_of X G z_abs, z_all := PySem.W.mg_none_of X G z_all, z_bool := PySem.W.mg_none_of X G z_bool, z_int := PySem.W.mg_none_of X G z_int, z_isinstance := PySem.W.mg_none_of X G z_isinstance, z_len := PySem.W.mg_none_of X G z_len, z_list := PySem.W.mg_none_of X G z_list, z_range := PySem.W.mg_none_of X G z_range, z_str := PySem.W.mg_none_of X G z_str }⟩
--END
end K02
open PySem PySem.W PyProof.Rows
set_option maxHeartbeats 0 in
theorem PySem.Challenge.cw_orplaces_k02_names_holds : PySem.Challenge.rw_orplaces_k02_names.Holds := by
  w_on; o_law; k_head; (case hw => w_witness2)
  k_fill
  refine L2.walk_of (l := PySem.Challenge.rw_orplaces_k02_names) (n := 63) (k := 4) (x := "_law_script") (CX := fun _ => L2.CX0) (sp := fun w => L3.toSp _ K02.sp_law) rfl (by decide) rfl ⟨rfl, by decide, by decide⟩ (fun w h Y => PySem.W.kIn_of Y) ?F (fun w H a ns hl ho hS => L3.law_sp (fun ns hl R RX h => K02.law_start ns hl R RX h) hl hS) (fun _ _ _ _ _ h => h)
  case F =>
    intro w mg fa h KX G hmg
    refine' K02.all_mk KX G hmg ?a_is_name ?l_is_name ?c_is_name ?k_is_name ?a_law_pen ?l_law_pen ?c_law_pen ?k_law_pen ?a_law_draw ?l_law_draw ?c_law_draw ?k_law_draw ?a_law_pick ?l_law_pick ?c_law_pick ?k_law_pick ?a_law_due ?l_law_due ?c_law_due ?k_law_due ?a_law_text ?l_law_text ?c_law_text ?k_law_text ?a_law_near ?l_law_near ?c_law_near ?k_law_near ?a_law_odd ?l_law_odd ?c_law_odd ?k_law_odd ?a_law ?l_law ?c_law ?k_law ?g_DIGITS ?g_LETTERS ?g_LONGEST ?g_RESERVED ?k_RESERVED ?z_abs ?z_all ?z_bool ?z_int ?z_isinstance ?z_len ?z_list ?z_range ?z_str
    (case a_is_name => k_is)
    (case l_is_name => k_is)
    (case c_is_name => k_is)
    (case k_is_name => k_is)
    (case a_law_pen => k_is)
    (case l_law_pen => k_is)
    (case c_law_pen => k_is)
    (case k_law_pen => k_is)
    (case a_law_draw => k_is)
    (case l_law_draw => k_is)
    (case c_law_draw => k_is)
    (case k_law_draw => k_is)
    (case a_law_pick => k_is)
    (case l_law_pick => k_is)
    (case c_law_pick => k_is)
    (case k_law_pick => k_is)
    (case a_law_due => k_is)
    (case l_law_due => k_is)
    (case c_law_due => k_is)
    (case k_law_due => k_is)
    (case a_law_text => k_is)
    (case l_law_text => k_is)
    (case c_law_text => k_is)
    (case k_law_text => k_is)
    (case a_law_near => k_is)
    (case l_law_near => k_is)
    (case c_law_near => k_is)
    (case k_law_near => k_is)
    (case a_law_odd => k_is)
    (case l_law_odd => k_is)
    (case c_law_odd => k_is)
    (case k_law_odd => k_is)
    (case a_law => k_is)
    (case l_law => k_is)
    (case c_law => k_is)
    (case k_law => k_is)
    (case g_DIGITS => k_is)
    (case g_LETTERS => k_is)
    (case g_LONGEST => k_is)
    (case g_RESERVED => k_is)
    (case k_RESERVED => k_is)
    (case z_abs => k_is)
    (case z_all => k_is)
    (case z_bool => k_is)
    (case z_int => k_is)
    (case z_isinstance => k_is)
    (case z_len => k_is)
    (case z_list => k_is)
    (case z_range => k_is)
    (case z_str => k_is)
