import PyProof.Rows.All
import Wide.All
import OpenK.AllK
import Wide.FinOn
import HandS.ForMost
import HandS.Exc
import HandS.TupAny
import HandS.IsInst
import HandS.Wide
import HandS.ClsMeth
import HandS.More
import HandS.ForExc
import HandS.CallSlots
import HandS.ExcInit
import HandS.ExcIs
import HandS.ExcField
import HandS.TryMany
import HandS.Star
import KE.GoesMore
import PyProof.Draws
import HandS.Iter
import KE.KExcIs
import HandS.Codes
import KE.KParD
import KE.KStar
import HandS.SortInts
import HandS.Conv
import HandS.Ends
import PyProof.RowDictHeap
import HandS.SortRule
import KE.KDictPairs
import HandS.ListItems
import HandS.Style
import PyProof.P3Eq
import HandS.Records
import HandS.FStr
import HandS.Text
import HandS.RaiseMore
import HandS.DictComp
import HandS.Strs
import KE.KRevSl
import HandS.Deep
import HandS.DictEq
import HandS.OwnEq
import PyProof.EqKinds
import KE.BitLaws
import HandS.MethStar
import HandS.Property
import KE.KOpsOwn
import HandS.TryOnly
import HandS.SuiteRaise
import HandS.RaiseFrom
import HandS.ExcInitHot
import PySem.Challenge.RW_orplaces_k09_merged_parts
set_option Elab.async false
set_option linter.all false
set_option maxRecDepth 100000
set_option maxHeartbeats 4000000
set_option pp.maxSteps 400
namespace L3
open PySem PySem.Spec PyProof.Rows L2

/-- what a step needs of its data: shown by arithmetic, or by hand -/
structure Need (p : Prop) : Prop where
  out : p
/-- pure data: what a Python value is, the heap put away. mut i: the i-th object that changes (its content stands in the table) -/
inductive D where
  | non | bl (b : Bool) | int (i : Int) | str (s : Str) | ty (n : String) | adr (a : Addr)
  | tup (l : List D) | ptp (l : List D) | lst (l : List D) | rol (l : List D) | dct (l : List (Key × D)) | fdc (l : List (Key × D)) | obj (n : Str) (fs : List (Str × D)) | cls (n : Str) | cel (i : Nat)

/-- a tuple that has no attributes of its own -/
def SqP (P : Hp) (a : Addr) (xs : List V) : Prop := ∃ o, P a = some (.frz o (.tup xs)) ∧ o.dict = none
/-- the class that the module's name n holds -/
def ClsAt (K : PySem.W.Frag) (n : Str) (C : Addr) : Prop := PySem.W.nsIn K mainGlobals n = some (some (.ref C))
theorem ClsAt.one {K : PySem.W.Frag} {n : Str} {C C' : Addr} (a : ClsAt K n C) (b : ClsAt K n C') : C = C' := by
  have e : some (some (Value.ref C)) = some (some (Value.ref C')) := a.symm.trans b
  cases e; rfl
mutual
inductive Rep (K : PySem.W.Frag) (P : Hp) (al : List Addr) : D → V → Prop
  | non : Rep K P al .non .non
  | bl (b : Bool) : Rep K P al (.bl b) (.bl b)
  | int (i : Int) : Rep K P al (.int i) (.int i)
  | str (s : Str) : Rep K P al (.str s) (.str s)
  | ty (n : String) : Rep K P al (.ty n) (.ty n)
  | adr (a : Addr) : Rep K P al (.adr a) (.ref a)
  | tup {a : Addr} {xs : List V} {ds : List D} : SqT K P a xs → Reps K P al ds xs → Rep K P al (.tup ds) (.ref a)
  | ptp {a : Addr} {xs : List V} {ds : List D} : SqP P a xs → Reps K P al ds xs → Rep K P al (.ptp ds) (.ref a)
  | lst {a : Addr} {xs : List V} {ds : List D} : P a = some (.lst xs) → Reps K P al ds xs → Rep K P al (.lst ds) (.ref a)
  | rol {a : Addr} {xs : List V} {ds : List D} : SqL K P a xs → Reps K P al ds xs → Rep K P al (.rol ds) (.ref a)
  | dct {a : Addr} {kvs : List (Key × V)} {ks : List (Key × D)} : P a = some (.dK kvs) → RepKs K P al ks kvs → Rep K P al (.dct ks) (.ref a)
  | fdc {a : Addr} {o : Obj} {kvs : List (Key × V)} {ks : List (Key × D)} : P a = some (.frz o (.dK kvs)) → RepKs K P al ks kvs → Rep K P al (.fdc ks) (.ref a)
  | obj {n : Str} {a C dx : Addr} {gs : List (Str × V)} {fs : List (Str × D)} : P a = some (.ins C dx gs) → ClsAt K n C → RepFs K P al fs gs → Rep K P al (.obj n fs) (.ref a)
  | cls {n : Str} {C : Addr} : ClsAt K n C → Rep K P al (.cls n) (.ref C)
  | cel {i : Nat} {a : Addr} : al[i]? = some a → Rep K P al (.cel i) (.ref a)
inductive Reps (K : PySem.W.Frag) (P : Hp) (al : List Addr) : List D → List V → Prop
  | nil : Reps K P al [] []
  | cons {d : D} {v : V} {ds : List D} {vs : List V} : Rep K P al d v → Reps K P al ds vs → Reps K P al (d :: ds) (v :: vs)
inductive RepKs (K : PySem.W.Frag) (P : Hp) (al : List Addr) : List (Key × D) → List (Key × V) → Prop
  | nil : RepKs K P al [] []
  | cons {k : Key} {d : D} {v : V} {ds : List (Key × D)} {vs : List (Key × V)} : Rep K P al d v → RepKs K P al ds vs → RepKs K P al ((k, d) :: ds) ((k, v) :: vs)
inductive RepFs (K : PySem.W.Frag) (P : Hp) (al : List Addr) : List (Str × D) → List (Str × V) → Prop
  | nil : RepFs K P al [] []
  | cons {k : Str} {d : D} {v : V} {ds : List (Str × D)} {vs : List (Str × V)} : Rep K P al d v → RepFs K P al ds vs → RepFs K P al ((k, d) :: ds) ((k, v) :: vs)
end

theorem same_seqT {K : PySem.W.Frag} {H H' : Hp} {a : Addr} {xs : List V} (e : Same H H') (h : SqT K H a xs) : SqT K H' a xs := by
  rcases h with h | h
  · rcases h with h | ⟨o, h⟩
    · exact .inl (.inl (e _ _ h))
    · exact .inl (.inr ⟨o, e _ _ h⟩)
  · exact .inr h
theorem SqP.same {P P' : Hp} {a : Addr} {xs : List V} (s : Same P P') (h : SqP P a xs) : SqP P' a xs := let ⟨o, e, d⟩ := h; ⟨o, s _ _ e, d⟩
theorem SqP.seqT {K : PySem.W.Frag} {P : Hp} {a : Addr} {xs : List V} (h : SqP P a xs) : SqT K P a xs := let ⟨o, e, _⟩ := h; .inl (.inr ⟨o, e⟩)
theorem pre_get {al al' : List Addr} (h : al <+: al') {i : Nat} {a : Addr} (e : al[i]? = some a) : al'[i]? = some a := by
  obtain ⟨t, rfl⟩ := h
  rw [List.getElem?_append_left (List.getElem?_eq_some_iff.mp e).1]; exact e
section
variable {K : PySem.W.Frag} {P P' : Hp} {al al' : List Addr}
mutual
theorem Rep.mono (s : Same P P') (h : al <+: al') : ∀ {d : D} {v : V}, Rep K P al d v → Rep K P' al' d v
  | _, _, .non => .non
  | _, _, .bl b => .bl b
  | _, _, .int i => .int i
  | _, _, .str x => .str x
  | _, _, .ty n => .ty n
  | _, _, .adr a => .adr a
  | _, _, .tup q r => .tup (same_seqT s q) (Reps.mono s h r)
  | _, _, .ptp q r => .ptp (q.same s) (Reps.mono s h r)
  | _, _, .lst q r => .lst (s _ _ q) (Reps.mono s h r)
  | _, _, .rol q r => .rol (s.seq q) (Reps.mono s h r)
  | _, _, .dct q r => .dct (s _ _ q) (RepKs.mono s h r)
  | _, _, .fdc q r => .fdc (s _ _ q) (RepKs.mono s h r)
  | _, _, .obj q c r => .obj (s _ _ q) c (RepFs.mono s h r)
  | _, _, .cls c => .cls c
  | _, _, .cel e => .cel (pre_get h e)
theorem Reps.mono (s : Same P P') (h : al <+: al') : ∀ {ds : List D} {vs : List V}, Reps K P al ds vs → Reps K P' al' ds vs
  | _, _, .nil => .nil
  | _, _, .cons r t => .cons (Rep.mono s h r) (Reps.mono s h t)
theorem RepKs.mono (s : Same P P') (h : al <+: al') : ∀ {ds : List (Key × D)} {vs : List (Key × V)}, RepKs K P al ds vs → RepKs K P' al' ds vs
  | _, _, .nil => .nil
  | _, _, .cons r t => .cons (Rep.mono s h r) (RepKs.mono s h t)
theorem RepFs.mono (s : Same P P') (h : al <+: al') : ∀ {ds : List (Str × D)} {vs : List (Str × V)}, RepFs K P al ds vs → RepFs K P' al' ds vs
  | _, _, .nil => .nil
  | _, _, .cons r t => .cons (Rep.mono s h r) (RepFs.mono s h t)
end
theorem Reps.length : ∀ {ds : List D} {vs : List V}, Reps K P al ds vs → ds.length = vs.length
  | _, _, .nil => rfl
  | _, _, .cons _ t => by simp [Reps.length t]
theorem Reps.append : ∀ {ds es : List D} {vs ws : List V}, Reps K P al ds vs → Reps K P al es ws → Reps K P al (ds ++ es) (vs ++ ws)
  | _, _, _, _, .nil, s => s
  | _, _, _, _, .cons r t, s => .cons r (Reps.append t s)
theorem Reps.get : ∀ {ds : List D} {vs : List V} {i : Nat} {d : D}, Reps K P al ds vs → ds[i]? = some d → ∃ v, vs[i]? = some v ∧ Rep K P al d v
  | _, _, _, _, .nil, e => by simp at e
  | _, _, 0, _, .cons r _, e => by simp at e; subst e; exact ⟨_, rfl, r⟩
  | _, _, i + 1, d, .cons _ t, e => by
    obtain ⟨v, h1, h2⟩ := Reps.get (i := i) (d := d) t (by simpa using e)
    exact ⟨v, by simpa using h1, h2⟩
theorem Reps.getV : ∀ {ds : List D} {vs : List V} {i : Nat} {v : V}, Reps K P al ds vs → vs[i]? = some v → ∃ d, ds[i]? = some d ∧ Rep K P al d v
  | _, _, _, _, .nil, e => by simp at e
  | _, _, 0, _, .cons r _, e => by simp at e; subst e; exact ⟨_, rfl, r⟩
  | _, _, i + 1, v, .cons _ t, e => by
    obtain ⟨d, h1, h2⟩ := Reps.getV (i := i) (v := v) t (by simpa using e)
    exact ⟨d, by simpa using h1, h2⟩
theorem Reps.set {d : D} {v : V} (r : Rep K P al d v) : ∀ {ds : List D} {vs : List V} (i : Nat), Reps K P al ds vs → Reps K P al (ds.set i d) (vs.set i v)
  | _, _, _, .nil => .nil
  | _, _, 0, .cons _ t => .cons r t
  | _, _, i + 1, .cons q t => .cons q (Reps.set r i t)
theorem Reps.take : ∀ {ds : List D} {vs : List V} (n : Nat), Reps K P al ds vs → Reps K P al (ds.take n) (vs.take n)
  | _, _, 0, _ => by simp; exact .nil
  | _, _, _ + 1, .nil => .nil
  | _, _, n + 1, .cons r t => .cons r (Reps.take n t)
theorem Reps.drop : ∀ {ds : List D} {vs : List V} (n : Nat), Reps K P al ds vs → Reps K P al (ds.drop n) (vs.drop n)
  | _, _, 0, r => r
  | _, _, _ + 1, .nil => .nil
  | _, _, n + 1, .cons r t => Reps.drop n t
theorem Reps.erase : ∀ {ds : List D} {vs : List V} (n : Nat), Reps K P al ds vs → Reps K P al (ds.eraseIdx n) (vs.eraseIdx n)
  | _, _, _, .nil => .nil
  | _, _, 0, .cons r t => t
  | _, _, n + 1, .cons r t => .cons r (Reps.erase n t)
end

/-! ### steps of the heap -/
/-- what stays unpublished: neither an instance's dict nor an error's -/
def PnOk (o : HO) : Prop := (∀ x, o ≠ .own x) ∧ ∀ g, o ≠ .xd g
/-- from one state to a later one: the published part grows, the table's places stay, what is tracked beside them stays -/
structure Ext (P : Hp) (al : List Addr) (H : Hp) (P' : Hp) (al' : List Addr) (H' : Hp) : Prop where
  pp : Same P P'
  pre : al <+: al'
  fr : ∀ b o, H b = some o → b ∉ al → H' b = some o
  new : ∀ b, b ∈ al' → b ∉ al → H b = none
  pn : ∀ b o, H b = some o → PnOk o → P b = none → b ∉ al → P' b = none
theorem Ext.refl {P : Hp} {al : List Addr} {H : Hp} : Ext P al H P al H :=
  ⟨Same.refl _, List.prefix_refl _, fun _ _ h _ => h, fun _ h n => absurd h n, fun _ _ _ _ h _ => h⟩
theorem Ext.trans {P P1 P2 : Hp} {al al1 al2 : List Addr} {H H1 H2 : Hp} (a : Ext P al H P1 al1 H1) (b : Ext P1 al1 H1 P2 al2 H2) : Ext P al H P2 al2 H2 := by
  have nin : ∀ c o, H c = some o → c ∉ al → c ∉ al1 := fun c o h n m => by
    have := a.new c m n
    rw [h] at this; cases this
  refine ⟨a.pp.trans b.pp, List.IsPrefix.trans a.pre b.pre, fun c o h n => b.fr c o (a.fr c o h n) (nin c o h n), fun c m n => ?_, fun c o h ho hp n => ?_⟩
  · by_cases m1 : c ∈ al1
    · exact a.new c m1 n
    · have h1 := b.new c m m1
      cases h : H c with
      | none => rfl
      | some o => rw [a.fr c o h n] at h1; cases h1
  · exact b.pn c o (a.fr c o h n) ho (a.pn c o h ho hp n) (nin c o h n)

/-- what stands in the table: alive if an object of it changes -/
def live : D → Bool
  | .lst _ => true
  | .dct _ => true
  | .obj _ _ => true
  | _ => false
/-- an error that is kept as a value -/
def ExK (a : Addr) (oe : Obj) : HO := .ext fun h => h.get? a = some oe
/-- [.obj n fs]: the object at a is an error of the class n with the fields fs -/
def ExCell (K : PySem.W.Frag) (P : Hp) (al : List Addr) (l : List D) (a : Addr) : Prop := match l with
  | [.obj n fs] => ∃ C d oe, P a = some (ExK a oe) ∧ ClsAt K n C ∧ L2.Zc (.ref C) d oe ∧ (∃ vs, oe.data = .fields vs) ∧ ((d = none ∧ fs = []) ∨ ∃ dd gs, d = some dd ∧ P dd = some (.xd gs) ∧ RepFs K P al fs gs)
  | _ => True
theorem ExCell.mono {K : PySem.W.Frag} {P P' : Hp} {al al' : List Addr} {l : List D} {a : Addr} (c : ExCell K P al l a) (s : Same P P') (h : al <+: al') : ExCell K P' al' l a := by
  unfold ExCell at c ⊢
  split at c
  · obtain ⟨C, d, oe, h1, h2, h3, h4, h5⟩ := c
    refine ⟨C, d, oe, s _ _ h1, h2, h3, h4, ?_⟩
    rcases h5 with h5 | ⟨dd, gs, g1, g2, g3⟩
    · exact .inl h5
    · exact .inr ⟨dd, gs, g1, s _ _ g2, g3.mono s h⟩
  · trivial
/-- the i-th object that changes, at a -/
def Cell (K : PySem.W.Frag) (P : Hp) (al : List Addr) (m : D) (a : Addr) (H : Hp) : Prop :=
  match m with
  | .lst ds => P a = none ∧ ∃ xs, H a = some (.lst xs) ∧ Reps K P al ds xs
  | .dct ks => P a = none ∧ ∃ kvs, H a = some (.dK kvs) ∧ RepKs K P al ks kvs
  | .obj n fs => P a = none ∧ ∃ C dx gs, H a = some (.ins C dx gs) ∧ ClsAt K n C ∧ RepFs K P al fs gs
  | .ptp l => ExCell K P al l a
  | _ => True
abbrev Bs := Hp × List Addr × Hp
abbrev Mt := List D
abbrev Ev := List (Option D)
structure RS0 (K : PySem.W.Frag) (B : Bs) (P : Hp) (al : List Addr) (M : Mt) (H : Hp) : Prop where
  base : Ext B.1 B.2.1 B.2.2 P al H
  same : Same P H
  len : al.length = M.length
  cell : ∀ (i : Nat) (a : Addr) (m : D), al[i]? = some a → M[i]? = some m → Cell K P al m a H
  inj : ∀ (i j : Nat) (a : Addr) (m n : D), al[i]? = some a → al[j]? = some a → M[i]? = some m → M[j]? = some n → live m = true → live n = true → i = j
  trk : ∀ a, a ∈ al → ∃ o, H a = some o
structure RS (K : PySem.W.Frag) (B : Bs) (P : Hp) (al : List Addr) (M : Mt) (env : Ev) (σ : L2.St) (H : Hp) : Prop extends RS0 K B P al M H where
  slen : env.length = σ.length
  slot : ∀ (j : Nat) (d : D), env[j]? = some (some d) → ∃ v, σ[j]? = some (some v) ∧ Rep K P al d v
section
variable {K : PySem.W.Frag} {B : Bs} {P P' : Hp} {al al' : List Addr} {M M' : Mt} {env : Ev} {σ : L2.St} {H H' : Hp} {a p : Addr} {d : D} {v : V}
theorem live_cell {m : D} (h : live m = true) (c : Cell K P al m a H) : P a = none ∧ ∃ o, H a = some o := by
  cases m <;> simp [live] at h
  · obtain ⟨h1, xs, h2, _⟩ := c; exact ⟨h1, _, h2⟩
  · obtain ⟨h1, xs, h2, _⟩ := c; exact ⟨h1, _, h2⟩
  · obtain ⟨h1, _, _, _, h2, _⟩ := c; exact ⟨h1, _, h2⟩
theorem Cell.mono {m : D} (c : Cell K P al m a H) (s : Same P P') (h : al <+: al') (hp : live m = true → P' a = none) (hh : ∀ o, live m = true → H a = some o → H' a = some o) : Cell K P' al' m a H' := by
  cases m <;> first | trivial | skip
  · exact ExCell.mono c s h
  · obtain ⟨h1, xs, h2, h3⟩ := c; exact ⟨hp rfl, xs, hh _ rfl h2, h3.mono s h⟩
  · obtain ⟨h1, xs, h2, h3⟩ := c; exact ⟨hp rfl, xs, hh _ rfl h2, h3.mono s h⟩
  · obtain ⟨h1, C, dx, xs, h2, hc, h3⟩ := c; exact ⟨hp rfl, C, dx, xs, hh _ rfl h2, hc, h3.mono s h⟩
/-- slots behind a step -/
theorem RS.step (r : RS K B P al M env σ H) (e : Ext P al H P' al' H') (r' : RS0 K B P' al' M' H') : RS K B P' al' M' env σ H' :=
  ⟨r', r.slen, fun j d h => by obtain ⟨v, h1, h2⟩ := r.slot j d h; exact ⟨v, h1, h2.mono e.pp e.pre⟩⟩
theorem RS0.free (r : RS0 K B P al M H) (hp : H p = none) : P p = none := by
  cases h : P p with
  | none => rfl
  | some o => rw [r.same _ _ h] at hp; cases hp
/-- a new object, published at once -/
theorem RS0.alloc (r : RS0 K B P al M H) (hp : H p = none) (o : HO) : Ext P al H (upd P p o) al (upd H p o) ∧ RS0 K B (upd P p o) al M (upd H p o) := by
  have np := r.free hp
  have e : Ext P al H (upd P p o) al (upd H p o) := by
    refine ⟨fun b x h => by rw [upd_ne (ne_of_none h np)]; exact h, List.prefix_refl _, fun b x h _ => by rw [upd_ne (ne_of_none h hp)]; exact h, fun b m n => absurd m n, fun b x h _ hb _ => by rw [upd_ne (ne_of_none h hp)]; exact hb⟩
  refine ⟨e, r.base.trans e, fun b x h => ?_, r.len, fun i a m h1 h2 => ?_, r.inj, fun a ha => by obtain ⟨o', h⟩ := r.trk a ha; exact ⟨o', by rw [upd_ne (ne_of_none h hp)]; exact h⟩⟩
  · by_cases hb : b = p
    · subst hb; rw [upd_same] at h ⊢; exact h
    · rw [upd_ne hb] at h ⊢; exact r.same _ _ h
  · have c := r.cell i a m h1 h2
    have hne : live m = true → a ≠ p := fun hl => by
      obtain ⟨_, o', ho⟩ := live_cell hl c
      exact ne_of_none ho hp
    exact c.mono e.pp e.pre (fun hl => by rw [upd_ne (hne hl)]; exact (live_cell hl c).1) fun o' hl ho => by rw [upd_ne (hne hl)]; exact ho
/-- a new object that will change -/
theorem RS0.allocM (r : RS0 K B P al M H) (hp : H p = none) {o : HO} {m : D} (hc : ∀ P' al', Same P P' → al <+: al' → P' p = none → ∀ H', H' p = some o → Cell K P' al' m p H') :
    Ext P al H P (al ++ [p]) (upd H p o) ∧ RS0 K B P (al ++ [p]) (M ++ [m]) (upd H p o) := by
  have np := r.free hp
  have e : Ext P al H P (al ++ [p]) (upd H p o) := by
    refine ⟨Same.refl _, List.prefix_append _ _, fun b x h _ => by rw [upd_ne (ne_of_none h hp)]; exact h, fun b m n => ?_, fun b x h _ hb _ => hb⟩
    rcases List.mem_append.mp m with z | z
    · exact absurd z n
    · have : b = p := by simpa using z
      rw [this]; exact hp
  have old : ∀ (i : Nat) (a : Addr), (al ++ [p])[i]? = some a → (i < al.length ∧ al[i]? = some a) ∨ (i = al.length ∧ a = p) := fun i a h => by
    by_cases hi : i < al.length
    · rw [List.getElem?_append_left hi] at h; exact .inl ⟨hi, h⟩
    · rw [List.getElem?_append_right (by omega)] at h
      have : i - al.length = 0 := by
        cases hq : i - al.length with
        | zero => rfl
        | succ n => rw [hq] at h; simp at h
      rw [this] at h
      exact .inr ⟨by omega, by simpa using h.symm⟩
  have oldM : ∀ (i : Nat) (n : D), i < al.length → (M ++ [m])[i]? = some n → M[i]? = some n := fun i n hi h => by
    rw [List.getElem?_append_left (by have := r.len; omega)] at h; exact h
  refine ⟨e, r.base.trans e, fun b x h => by rw [upd_ne (ne_of_none h np)]; exact r.same _ _ h, by simp [r.len], fun i a n h1 h2 => ?_, fun i j a n n' h1 h2 h3 h4 l1 l2 => ?_, fun a ha => ?_⟩
  · rcases old i a h1 with ⟨hi, h1'⟩ | ⟨hi, rfl⟩
    · have c := r.cell i a n h1' (oldM i n hi h2)
      have hne : live n = true → a ≠ p := fun hl => by
        obtain ⟨_, o', ho⟩ := live_cell hl c
        exact ne_of_none ho hp
      exact c.mono e.pp e.pre (fun hl => (live_cell hl c).1) fun o' hl ho => by rw [upd_ne (hne hl)]; exact ho
    · rw [hi, List.getElem?_append_right (by have := r.len; omega), r.len, Nat.sub_self] at h2
      have : m = n := by simpa using h2
      subst this
      exact hc _ _ (Same.refl _) e.pre np _ upd_same
  · rcases old i a h1 with ⟨hi, h1'⟩ | ⟨hi, e1⟩
    · rcases old j a h2 with ⟨hj, h2'⟩ | ⟨hj, e2⟩
      · exact r.inj i j a n n' h1' h2' (oldM i n hi h3) (oldM j n' hj h4) l1 l2
      · exfalso
        obtain ⟨_, o', ho⟩ := live_cell l1 (r.cell i a n h1' (oldM i n hi h3))
        rw [e2, hp] at ho; cases ho
    · rcases old j a h2 with ⟨hj, h2'⟩ | ⟨hj, e2⟩
      · exfalso
        obtain ⟨_, o', ho⟩ := live_cell l2 (r.cell j a n' h2' (oldM j n' hj h4))
        rw [e1, hp] at ho; cases ho
      · omega
  · rcases List.mem_append.mp ha with z | z
    · obtain ⟨o', h⟩ := r.trk a z; exact ⟨o', by rw [upd_ne (ne_of_none h hp)]; exact h⟩
    · have : a = p := by simpa using z
      rw [this]; exact ⟨_, upd_same⟩
/-- the i-th object changes -/
theorem RS0.change (r : RS0 K B P al M H) {i : Nat} {m m' : D} {o' : HO} (ha : al[i]? = some a) (hm : M[i]? = some m) (hl : live m = true) (hc : ∀ H', H' a = some o' → Cell K P al m' a H') :
    Ext P al H P al (upd H a o') ∧ RS0 K B P al (M.set i m') (upd H a o') := by
  have c := r.cell i a m ha hm
  have np := (live_cell hl c).1
  have im : i < M.length := (List.getElem?_eq_some_iff.mp hm).1
  have ia : a ∈ al := List.mem_of_getElem? ha
  have e : Ext P al H P al (upd H a o') := by
    refine ⟨Same.refl _, List.prefix_refl _, fun b x h n => ?_, fun b m n => absurd m n, fun b x h _ hb _ => hb⟩
    have hne : b ≠ a := fun z => n (by rw [z]; exact ia)
    rw [upd_ne hne]; exact h
  have gm : ∀ (j : Nat) (n : D), (M.set i m')[j]? = some n → (j = i ∧ n = m') ∨ (j ≠ i ∧ M[j]? = some n) := fun j n h => by
    by_cases hj : j = i
    · subst hj; rw [List.getElem?_set_self im] at h; exact .inl ⟨rfl, (Option.some.inj h).symm⟩
    · rw [List.getElem?_set_ne (Ne.symm hj)] at h; exact .inr ⟨hj, h⟩
  refine ⟨e, r.base.trans e, fun b x h => ?_, by simp [r.len], fun j b n h1 h2 => ?_, fun j k b n n' h1 h2 h3 h4 l1 l2 => ?_, fun b hb => ?_⟩
  · rw [upd_ne (fun z => by rw [z, np] at h; cases h)]; exact r.same _ _ h
  · rcases gm j n h2 with ⟨rfl, rfl⟩ | ⟨hj, h2⟩
    · rw [ha] at h1; cases h1
      exact hc _ upd_same
    · have c' := r.cell j b n h1 h2
      refine c'.mono (Same.refl _) (List.prefix_refl _) (fun l => (live_cell l c').1) (fun o l ho => ?_)
      have hne : b ≠ a := fun z => hj (r.inj j i a n m (z ▸ h1) ha h2 hm l hl)
      rw [upd_ne hne]; exact ho
  · rcases gm j n h3 with ⟨e1, e2⟩ | ⟨hj, g3⟩
    · rcases gm k n' h4 with ⟨e3, e4⟩ | ⟨hk, g4⟩
      · omega
      · rw [e1, ha] at h1; cases h1
        rw [e1]
        exact (r.inj k i a n' m h2 ha g4 hm l2 hl).symm
    · rcases gm k n' h4 with ⟨e3, e4⟩ | ⟨hk, g4⟩
      · rw [e3, ha] at h2; cases h2
        rw [e3]
        exact r.inj j i a n m h1 ha g3 hm l1 hl
      · exact r.inj j k b n n' h1 h2 g3 g4 l1 l2
  · by_cases hz : b = a
    · rw [hz]; exact ⟨_, upd_same⟩
    · obtain ⟨o2, h⟩ := r.trk b hb; exact ⟨o2, by rw [upd_ne hz]; exact h⟩
/-- what is not tracked was not tracked at the base -/
theorem RS0.fresh (r : RS0 K B P al M H) (hp : H p = none) : B.2.2 p = none ∧ p ∉ al := by
  have na : p ∉ al := fun h => by obtain ⟨o, e⟩ := r.trk p h; rw [hp] at e; cases e
  refine ⟨?_, na⟩
  cases h : B.2.2 p with
  | none => rfl
  | some o =>
    have nb : p ∉ B.2.1 := fun z => na (r.base.pre.subset z)
    rw [r.base.fr p o h nb] at hp; cases hp
/-- an object of our own beside the state: made, changed, published -/
theorem Ext.priv (e : Ext P al H P' al' H') (hp : H p = none) (o : HO) : Ext P al H P' al' (upd H' p o) :=
  ⟨e.pp, e.pre, fun b x h n => by rw [upd_ne (ne_of_none h hp)]; exact e.fr b x h n, e.new, e.pn⟩
theorem Ext.pub (e : Ext P al H P' al' H') (hp : H p = none) (hq : P' p = none) (o : HO) : Ext P al H (upd P' p o) al' H' :=
  ⟨fun b x h => by rw [upd_ne (ne_of_none (e.pp b x h) hq)]; exact e.pp b x h, e.pre, e.fr, e.new, fun b x h h1 h2 h3 => by rw [upd_ne (ne_of_none h hp)]; exact e.pn b x h h1 h2 h3⟩
theorem RS0.priv (r : RS0 K B P al M H) (hq : P p = none) (na : p ∉ al) (hb : B.2.2 p = none) (o : HO) : RS0 K B P al M (upd H p o) := by
  refine ⟨r.base.priv hb o, fun b x h => by rw [upd_ne (ne_of_none h hq)]; exact r.same _ _ h, r.len, fun i a m h1 h2 => ?_, r.inj, fun a ha => ?_⟩
  · have ne : a ≠ p := fun z => na (z ▸ List.mem_of_getElem? h1)
    exact (r.cell i a m h1 h2).mono (Same.refl _) (List.prefix_refl _) (fun l => (live_cell l (r.cell i a m h1 h2)).1) fun o' _ h => by rw [upd_ne ne]; exact h
  · have ne : a ≠ p := fun z => na (z ▸ ha)
    obtain ⟨o2, h⟩ := r.trk a ha; exact ⟨o2, by rw [upd_ne ne]; exact h⟩
theorem RS0.pub (r : RS0 K B P al M H) (hq : P p = none) (na : p ∉ al) (hb : B.2.2 p = none) {o : HO} (ho : H p = some o) : RS0 K B (upd P p o) al M H := by
  have sm : Same P (upd P p o) := fun b x h => by rw [upd_ne (ne_of_none h hq)]; exact h
  refine ⟨r.base.pub hb hq o, fun b x h => ?_, r.len, fun i a m h1 h2 => ?_, r.inj, r.trk⟩
  · by_cases hz : b = p
    · rw [hz, upd_same] at h; cases h; rw [hz]; exact ho
    · rw [upd_ne hz] at h; exact r.same _ _ h
  · have ne : a ≠ p := fun z => na (z ▸ List.mem_of_getElem? h1)
    exact (r.cell i a m h1 h2).mono sm (List.prefix_refl _) (fun l => by rw [upd_ne ne]; exact (live_cell l (r.cell i a m h1 h2)).1) fun o' _ h => h
end

/-! ### judgements: pure readings -/
abbrev WE := Ev → Mt → (D → Mt → Prop) → Prop
abbrev WT := Ev → Mt → (Bool → Mt → Prop) → Prop
abbrev WA := Ev → Mt → (List D → Mt → Prop) → Prop
structure DEnds where
  nx : Ev → Mt → Prop
  rt : D → Mt → Prop
  bk : Ev → Mt → Prop
  ct : Ev → Mt → Prop
abbrev WS := DEnds → Ev → Mt → Prop
abbrev WG := D → Ev → Mt → (Ev → Mt → Prop) → Prop
section
variable (K : PySem.W.Frag) (B : Bs)
def Lift (P : Hp) (al : List Addr) (env : Ev) (σ : L2.St) (H : Hp) (R : D → Mt → Prop) (Q : VK) : Prop :=
  ∀ d M' v H' P' al', Ext P al H P' al' H' → RS K B P' al' M' env σ H' → Rep K P' al' d v → R d M' → Q v H'
def tD (w : WE) : TE := fun σ H Q => ∃ P al M env R, RS K B P al M env σ H ∧ w env M R ∧ Lift K B P al env σ H R Q
def tDT (w : WT) : TT := fun σ H Q => ∃ P al M env R, RS K B P al M env σ H ∧ w env M R ∧
  ∀ b M' H' P' al', Ext P al H P' al' H' → RS K B P' al' M' env σ H' → R b M' → Q b H'
def tDA (w : WA) : TA := fun σ H Q => ∃ P al M env R, RS K B P al M env σ H ∧ w env M R ∧
  ∀ ds M' vs H' P' al', Ext P al H P' al' H' → RS K B P' al' M' env σ H' → Reps K P' al' ds vs → R ds M' → Q vs H'
structure DLift (P : Hp) (al : List Addr) (H : Hp) (k : DEnds) (D : Ends) : Prop where
  nx : ∀ env' M' σ' H' P' al', Ext P al H P' al' H' → RS K B P' al' M' env' σ' H' → k.nx env' M' → D.nx σ' H'
  rt : ∀ d M' v H' P' al', Ext P al H P' al' H' → RS0 K B P' al' M' H' → Rep K P' al' d v → k.rt d M' → D.rt v H'
  bk : ∀ env' M' σ' H' P' al', Ext P al H P' al' H' → RS K B P' al' M' env' σ' H' → k.bk env' M' → D.bk σ' H'
  ct : ∀ env' M' σ' H' P' al', Ext P al H P' al' H' → RS K B P' al' M' env' σ' H' → k.ct env' M' → D.ct σ' H'
def tDS (w : WS) : TS := fun D σ H => ∃ P al M env, ∃ k : DEnds, RS K B P al M env σ H ∧ w k env M ∧ DLift K B P al H k D
def tDG (g : WG) : TG := fun v σ H Q => ∃ P al M env d R, RS K B P al M env σ H ∧ Rep K P al d v ∧ g d env M R ∧
  ∀ env' M' σ' H' P' al', Ext P al H P' al' H' → RS K B P' al' M' env' σ' H' → R env' M' → Q σ' H'
end
theorem DLift.after {K : PySem.W.Frag} {B : Bs} {P P' : Hp} {al al' : List Addr} {H H' : Hp} {k : DEnds} {D : Ends} (L : DLift K B P al H k D) (e : Ext P al H P' al' H') : DLift K B P' al' H' k D :=
  ⟨fun _ _ _ _ _ _ e2 => L.nx _ _ _ _ _ _ (e.trans e2), fun _ _ _ _ _ _ e2 => L.rt _ _ _ _ _ _ (e.trans e2), fun _ _ _ _ _ _ e2 => L.bk _ _ _ _ _ _ (e.trans e2), fun _ _ _ _ _ _ e2 => L.ct _ _ _ _ _ _ (e.trans e2)⟩
theorem _root_.L2.PE.imp {X : Cx} {e : Expr} {t u : TE} (h : PE X e t) (i : ∀ σ H Q, u σ H Q → t σ H Q) : PE X e u := ⟨fun pins s σ H Q I q => h.run pins s σ H Q I (i σ H Q q)⟩
theorem _root_.L2.PT.imp {X : Cx} {e : Expr} {t u : TT} (h : PT X e t) (i : ∀ σ H Q, u σ H Q → t σ H Q) : PT X e u := ⟨fun pins s σ H Q I q => h.run pins s σ H Q I (i σ H Q q)⟩
theorem _root_.L2.PW.imp {X : Cx} {e : Expr} {t u : TT} (h : PW X e t) (i : ∀ σ H Q, u σ H Q → t σ H Q) : PW X e u := ⟨fun wh pins s σ H Q I q => h.run wh pins s σ H Q I (i σ H Q q)⟩
theorem _root_.L2.PA.imp {X : Cx} {e : List Expr} {t u : TA} (h : PA X e t) (i : ∀ σ H Q, u σ H Q → t σ H Q) : PA X e u := ⟨fun p pins s σ H Q I q => h.run p pins s σ H Q I (i σ H Q q)⟩
theorem _root_.L2.PS.imp {X : Cx} {e : Stmt} {t u : TS} (h : PS X e t) (i : ∀ D σ H, u D σ H → t D σ H) : PS X e u := ⟨fun pins s σ H D I q => h.run pins s σ H D I (i D σ H q)⟩
theorem _root_.L2.PSs.imp {X : Cx} {e : List Stmt} {t u : TS} (h : PSs X e t) (i : ∀ D σ H, u D σ H → t D σ H) : PSs X e u := ⟨fun pins s σ H D I q => h.run pins s σ H D I (i D σ H q)⟩
theorem _root_.L2.PI.imp {X : Cx} {tg e : Expr} {t u : TI} (h : PI X tg e t) (i : ∀ σ H Q, u σ H Q → t σ H Q) : PI X tg e u := ⟨fun pins s σ H R I q => h.run pins s σ H R I (i σ H R q)⟩
theorem _root_.L2.PG.imp {X : Cx} {e : Expr} {t u : TG} (h : PG X e t) (i : ∀ v σ H Q, u v σ H Q → t v σ H Q) : PG X e u := ⟨fun pins s σ H v u' Q I r q => h.run pins s σ H v u' Q I r (i v σ H Q q)⟩
abbrev DE (B : Bs) (X : Cx) (e : Expr) (w : WE) : Prop := PE X e (tD X.K B w)
abbrev DT (B : Bs) (X : Cx) (e : Expr) (w : WT) : Prop := PT X e (tDT X.K B w)
abbrev DW (B : Bs) (X : Cx) (e : Expr) (w : WT) : Prop := PW X e (tDT X.K B w)
abbrev DA (B : Bs) (X : Cx) (es : List Expr) (w : WA) : Prop := PA X es (tDA X.K B w)
abbrev DS (B : Bs) (X : Cx) (st : Stmt) (w : WS) : Prop := PS X st (tDS X.K B w)
abbrev DSs (B : Bs) (X : Cx) (st : List Stmt) (w : WS) : Prop := PSs X st (tDS X.K B w)
abbrev DG (B : Bs) (X : Cx) (e : Expr) (g : WG) : Prop := PG X e (tDG X.K B g)
end L3

namespace L3
open PySem PySem.Spec PyProof.Rows L2
/-! ### looking through the table -/
def viewD (M : Mt) : D → D
  | .cel i => match M[i]? with
    | some (.lst l) => .lst l
    | some (.dct l) => .dct l
    | some (.obj C fs) => .obj C fs
    | _ => .cel i
  | d => d
section
variable {K : PySem.W.Frag} {B : Bs} {P P' : Hp} {al al' : List Addr} {M M' : Mt} {env : Ev} {σ : L2.St} {H H' : Hp} {a p : Addr} {d : D} {v : V}
theorem view_cases (M : Mt) (d : D) : viewD M d = d ∨ ∃ i m, d = .cel i ∧ M[i]? = some m ∧ live m = true ∧ viewD M d = m := by
  cases d <;> first | exact .inl rfl | skip
  rename_i i
  obtain ⟨o, h⟩ : ∃ o, M[i]? = o := ⟨_, rfl⟩
  cases o with
  | none => exact .inl (by simp only [viewD, h])
  | some m =>
    cases m <;> first
      | exact .inr ⟨i, _, rfl, h, rfl, by simp only [viewD, h]⟩
      | exact .inl (by simp only [viewD, h])
theorem view_same {m : D} (hl : live m = false) (e : viewD M d = m) : d = m := by
  rcases view_cases M d with h | ⟨i, n, _, _, l, h⟩
  · rw [← h, e]
  · rw [e] at h; subst h; rw [hl] at l; cases l
theorem cell_at (r : RS0 K B P al M H) {i : Nat} {m : D} (hm : M[i]? = some m) (q : Rep K P al (.cel i) v) : ∃ a, v = .ref a ∧ al[i]? = some a ∧ Cell K P al m a H := by
  cases q with
  | cel e => exact ⟨_, rfl, e, r.cell _ _ _ e hm⟩
theorem view_lst (r : RS0 K B P al M H) (q : Rep K P al d v) {ds : List D} (e : viewD M d = .lst ds) : ∃ a xs, v = .ref a ∧ H a = some (.lst xs) ∧ Reps K P al ds xs := by
  rcases view_cases M d with h | ⟨i, m, rfl, hm, l, h⟩
  · rw [e] at h; subst h
    cases q with
    | lst h1 h2 => exact ⟨_, _, rfl, r.same _ _ h1, h2⟩
  · rw [e] at h; subst h
    obtain ⟨a, rfl, _, _, xs, h1, h2⟩ := cell_at r hm q
    exact ⟨a, xs, rfl, h1, h2⟩
theorem view_dct (r : RS0 K B P al M H) (q : Rep K P al d v) {ds : List (Key × D)} (e : viewD M d = .dct ds) : ∃ a xs, v = .ref a ∧ H a = some (.dK xs) ∧ RepKs K P al ds xs := by
  rcases view_cases M d with h | ⟨i, m, rfl, hm, l, h⟩
  · rw [e] at h; subst h
    cases q with
    | dct h1 h2 => exact ⟨_, _, rfl, r.same _ _ h1, h2⟩
  · rw [e] at h; subst h
    obtain ⟨a, rfl, _, _, xs, h1, h2⟩ := cell_at r hm q
    exact ⟨a, xs, rfl, h1, h2⟩
theorem view_fdc (r : RS0 K B P al M H) (q : Rep K P al d v) {ds : List (Key × D)} (e : viewD M d = .fdc ds) : ∃ a xs, v = .ref a ∧ Rd H a (.dK xs) ∧ RepKs K P al ds xs := by
  rw [view_same rfl e] at q
  cases q with
  | fdc h1 h2 => exact ⟨_, _, rfl, .inr ⟨_, r.same _ _ h1⟩, h2⟩
theorem view_dk (r : RS0 K B P al M H) (q : Rep K P al d v) {ds : List (Key × D)} (e : viewD M d = .dct ds ∨ viewD M d = .fdc ds) : ∃ a xs, v = .ref a ∧ Rd H a (.dK xs) ∧ RepKs K P al ds xs := by
  rcases e with e | e
  · obtain ⟨a, xs, h1, h2, h3⟩ := view_dct r q e
    exact ⟨a, xs, h1, .inl h2, h3⟩
  · exact view_fdc r q e
theorem view_obj (r : RS0 K B P al M H) (q : Rep K P al d v) {n : Str} {fs : List (Str × D)} (e : viewD M d = .obj n fs) : ∃ a C dx xs, v = .ref a ∧ H a = some (.ins C dx xs) ∧ ClsAt K n C ∧ RepFs K P al fs xs := by
  rcases view_cases M d with h | ⟨i, m, rfl, hm, l, h⟩
  · rw [e] at h; subst h
    cases q with
    | obj h1 hc h2 => exact ⟨_, _, _, _, rfl, r.same _ _ h1, hc, h2⟩
  · rw [e] at h; subst h
    obtain ⟨a, rfl, _, _, C, dx, xs, h1, hc, h2⟩ := cell_at r hm q
    exact ⟨a, C, dx, xs, rfl, h1, hc, h2⟩
theorem view_cls (q : Rep K P al d v) {n : Str} (e : viewD M d = .cls n) : ∃ C, v = .ref C ∧ ClsAt K n C := by
  rw [view_same rfl e] at q; cases q with | cls c => exact ⟨_, rfl, c⟩
theorem view_tup (r : RS0 K B P al M H) (q : Rep K P al d v) {ds : List D} (e : viewD M d = .tup ds) : ∃ a xs, v = .ref a ∧ SqT K H a xs ∧ Reps K P al ds xs := by
  rw [view_same rfl e] at q
  cases q with
  | tup h1 h2 => exact ⟨_, _, rfl, same_seqT r.same h1, h2⟩
theorem view_rol (r : RS0 K B P al M H) (q : Rep K P al d v) {ds : List D} (e : viewD M d = .rol ds) : ∃ a xs, v = .ref a ∧ SqL K H a xs ∧ Reps K P al ds xs := by
  rw [view_same rfl e] at q
  cases q with
  | rol h1 h2 => exact ⟨_, _, rfl, r.same.seq h1, h2⟩
theorem view_int (q : Rep K P al d v) {i : Int} (e : viewD M d = .int i) : v = .int i := by
  rw [view_same rfl e] at q; cases q; rfl
theorem view_bl (q : Rep K P al d v) {i : Bool} (e : viewD M d = .bl i) : v = .bl i := by
  rw [view_same rfl e] at q; cases q; rfl
theorem view_str (q : Rep K P al d v) {i : Str} (e : viewD M d = .str i) : v = .str i := by
  rw [view_same rfl e] at q; cases q; rfl
theorem view_non (q : Rep K P al d v) (e : viewD M d = .non) : v = .non := by
  rw [view_same rfl e] at q; cases q; rfl
theorem view_ty (q : Rep K P al d v) {n : String} (e : viewD M d = .ty n) : v = .ty n := by
  rw [view_same rfl e] at q; cases q; rfl
/-- what can be read in order -/
def seqD : D → Option (List D)
  | .lst l => some l
  | .rol l => some l
  | .tup l => some l
  | _ => none
theorem view_seq (r : RS0 K B P al M H) (q : Rep K P al d v) {ds : List D} (e : seqD (viewD M d) = some ds) : ∃ a xs, v = .ref a ∧ (SqL K H a xs ∨ SqT K H a xs) ∧ Reps K P al ds xs := by
  cases h : viewD M d <;> rw [h] at e <;> simp [seqD] at e
  · obtain ⟨a, xs, e1, e2, e3⟩ := view_tup r q h; subst e; exact ⟨a, xs, e1, .inr e2, e3⟩
  · obtain ⟨a, xs, e1, e2, e3⟩ := view_lst r q h; subst e; exact ⟨a, xs, e1, .inl (.inl (.inl e2)), e3⟩
  · obtain ⟨a, xs, e1, e2, e3⟩ := view_rol r q h; subst e; exact ⟨a, xs, e1, .inl e2, e3⟩

/-! ### lifting -/
theorem Lift.after {R : D → Mt → Prop} {Q : VK} (L : Lift K B P al env σ H R Q) (e : Ext P al H P' al' H') : Lift K B P' al' env σ H' R Q :=
  fun d M v H2 P2 al2 e2 rs r q => L d M v H2 P2 al2 (e.trans e2) rs r q
/-- the value is there already -/
theorem Lift.here {R : D → Mt → Prop} {Q : VK} (L : Lift K B P al env σ H R Q) (rs : RS K B P al M env σ H) (r : Rep K P al d v) (q : R d M) : Q v H := L _ _ _ _ _ _ Ext.refl rs r q
/-- a new object is the value -/
theorem Lift.alloc {R : D → Mt → Prop} {Q : VK} (L : Lift K B P al env σ H R Q) (rs : RS K B P al M env σ H) (hp : H p = none) {o : HO} (r : Rep K (upd P p o) al d (.ref p)) (q : R d M) : Q (.ref p) (upd H p o) := by
  obtain ⟨e, r0⟩ := rs.toRS0.alloc hp o
  exact L _ _ _ _ _ _ e (rs.step e r0) r q
theorem Ext.rs (e : Ext P al H P' al' H') (rs : RS K B P al M env σ H) (r0 : RS0 K B P' al' M' H') : RS K B P' al' M' env σ H' := rs.step e r0
theorem same_new (rs : RS0 K B P al M H) (hp : H p = none) {o : HO} : Same P (upd P p o) := (rs.alloc hp o).1.pp
end

/-! ### names and constants -/
def look (env : Ev) (i : Nat) : Option D := match env[i]? with
  | some (some d) => some d
  | _ => none
def wVar (i : Nat) : WE := fun env M R => match env[i]? with
  | some (some d) => R d M
  | _ => False
def wC (d : D) : WE := fun _ M R => R d M
section
variable {X : Cx} {B : Bs} {a b c e : Expr} {es : List Expr} {wa wb wc we : WE} {pos : Pos}
theorem d_var {i : Nat} {x : Str} {pos : Pos} (hN : X.N[i]? = some x := by rfl) (hv : Vis X.env.scope x := by first | exact Or.inl rfl | exact Or.inr (Or.inl rfl) | exact Or.inr (Or.inr rfl)) (hd : (x == ("__debug__" : Str)) = false := by decide) (hcd : (x == ("__classdict__" : Str)) = false := by decide) :
    DE B X (.Name x pos) (wVar i) := by
  refine (pe_var hN hv hd hcd).imp fun σ H Q => ?_
  rintro ⟨P, al, M, env, R, rs, hw, L⟩
  unfold wVar at hw
  split at hw
  · rename_i d hd
    obtain ⟨v, h1, h2⟩ := rs.slot _ _ hd
    exact ⟨v, h1, L.here rs h2 hw⟩
  · exact hw.elim
theorem d_C {d : D} {v : V} (h : PE X e (tC v)) (hd : ∀ P al, Rep X.K P al d v) : DE B X e (wC d) := by
  refine h.imp fun σ H Q => ?_
  rintro ⟨P, al, M, env, R, rs, hw, L⟩
  exact L.here rs (hd _ _) hw
theorem d_int {i : Int} {j pos} : DE B X (.Constant (.int i) j pos) (wC (.int i)) := d_C pe_int fun _ _ => .int i
theorem d_str {x : Str} {j pos} : DE B X (.Constant (.str x) j pos) (wC (.str x)) := d_C pe_str fun _ _ => .str x
theorem d_bl {x : Bool} {j pos} : DE B X (.Constant (.bool x) j pos) (wC (.bl x)) := d_C pe_bl fun _ _ => .bl x
theorem d_non {j pos} : DE B X (.Constant .none j pos) (wC .non) := d_C pe_non fun _ _ => .non

/-! ### two places -/
abbrev WO2 := D → D → Mt → (D → Mt → Prop) → Prop
def wOp (o : WO2) (wa wb : WE) : WE := fun env M R => wa env M fun x M1 => wb env M1 fun y M2 => o x y M2 R
def OpD (K : PySem.W.Frag) (B : Bs) (r : R2) (o : WO2) : Prop := ∀ P al M env σ H x y dx dy R Q, RS K B P al M env σ H → Rep K P al dx x → Rep K P al dy y → o dx dy M R → Lift K B P al env σ H R Q → r x y H Q
theorem op_imp {K : PySem.W.Frag} {r : R2} {o : WO2} (h : OpD K B r o) (σ : L2.St) (H : Hp) (Q : VK) : tD K B (wOp o wa wb) σ H Q → tOp r (tD K B wa) (tD K B wb) σ H Q := by
  rintro ⟨P, al, M, env, R, rs, hw, L⟩
  exact ⟨P, al, M, env, _, rs, hw, fun d1 M1 v1 H1 P1 al1 e1 rs1 r1 hw1 => ⟨P1, al1, M1, env, _, rs1, hw1, fun d2 M2 v2 H2 P2 al2 e2 rs2 r2 hw2 =>
    h _ _ _ _ _ _ _ _ _ _ _ _ rs2 (r1.mono e2.pp e2.pre) r2 hw2 (L.after (e1.trans e2))⟩⟩
theorem d_op {op : Operator} {r : R2} {o : WO2} (ho : OpR X (binaryOp op) r) (h : OpD X.K B r o) (ha : DE B X a wa) (hb : DE B X b wb) : DE B X (.BinOp a op b pos) (wOp o wa wb) :=
  (pe_op ho ha hb).imp (op_imp h)
theorem d_cmp {op : CmpOp} {r : R2} {o : WO2} (ho : OpR X (compareOp op) r) (h : OpD X.K B r o) (ha : DE B X a wa) (hb : DE B X b wb) (hm : behindInMarks op b = false) : DE B X (.Compare a [op] [b] pos) (wOp o wa wb) :=
  (pe_cmpR ho ha hb hm).imp (op_imp h)
/-- a value that must be a bool, as a test -/
def wTest (w : WE) : WT := fun env M R => w env M fun d M1 => match d with
  | .bl b => R b M1
  | _ => False
theorem test_imp {K : PySem.W.Frag} {t : TE} {w : WE} (h : ∀ σ H Q, tD K B w σ H Q → t σ H Q) (σ : L2.St) (H : Hp) (Q : Bool → Hp → Prop) : tDT K B (wTest w) σ H Q → tTest t σ H Q := by
  rintro ⟨P, al, M, env, R, rs, hw, L⟩
  refine h σ H _ ⟨P, al, M, env, _, rs, hw, fun d M1 v H1 P1 al1 e1 rs1 r1 q => ?_⟩
  split at q
  · rename_i b; cases r1; exact ⟨b, rfl, L _ _ _ _ _ e1 rs1 q⟩
  · exact q.elim
theorem d_cmpT {op : CmpOp} {r : R2} {o : WO2} (ho : OpR X (compareOp op) r) (h : OpD X.K B r o) (ha : DE B X a wa) (hb : DE B X b wb) (hm : behindInMarks op b = false) : DT B X (.Compare a [op] [b] pos) (wTest (wOp o wa wb)) :=
  (pt_cmpR ho ha hb hm).imp (test_imp (op_imp h))
/-- both ways of a truth value -/
def ifB (b : Bool) (A C : Prop) : Prop := (b = true → A) ∧ (b = false → C)
theorem ifB_ite {b : Bool} {A C : Prop} (h : ifB b A C) : if b = true then A else C := by
  cases b with
  | true => rw [if_pos rfl]; exact h.1 rfl
  | false => rw [if_neg Bool.false_ne_true]; exact h.2 rfl
def wAndT (t u : WT) : WT := fun env M R => t env M fun b M1 => ifB b (u env M1 R) (R false M1)
def wOrT (t u : WT) : WT := fun env M R => t env M fun b M1 => ifB b (R true M1) (u env M1 R)
def wNotT (t : WT) : WT := fun env M R => t env M fun b M1 => R (!b) M1
variable {ta tb : WT} {rest : List Expr}
theorem d_and1 (ha : DT B X a ta) : DW B X (.BoolOp .And [a] pos) ta := pw_and1 ha
theorem d_or1 (ha : DT B X a ta) : DW B X (.BoolOp .Or [a] pos) ta := pw_or1 ha
theorem d_and (ha : DT B X a ta) (hb : DW B X (.BoolOp .And (b :: rest) pos) tb) : DW B X (.BoolOp .And (a :: b :: rest) pos) (wAndT ta tb) := by
  refine (pw_and ha hb).imp fun σ H Q => ?_
  rintro ⟨P, al, M, env, R, rs, hw, L⟩
  refine ⟨P, al, M, env, _, rs, hw, fun b' M1 H1 P1 al1 e1 rs1 q => ?_⟩
  cases b' with
  | true => rw [if_pos rfl]; exact ⟨P1, al1, M1, env, _, rs1, q.1 rfl, fun c M2 H2 P2 al2 e2 rs2 q2 => L _ _ _ _ _ (e1.trans e2) rs2 q2⟩
  | false => rw [if_neg Bool.false_ne_true]; exact L _ _ _ _ _ e1 rs1 (q.2 rfl)
theorem d_or (ha : DT B X a ta) (hb : DW B X (.BoolOp .Or (b :: rest) pos) tb) : DW B X (.BoolOp .Or (a :: b :: rest) pos) (wOrT ta tb) := by
  refine (pw_or ha hb).imp fun σ H Q => ?_
  rintro ⟨P, al, M, env, R, rs, hw, L⟩
  refine ⟨P, al, M, env, _, rs, hw, fun b' M1 H1 P1 al1 e1 rs1 q => ?_⟩
  cases b' with
  | true => rw [if_pos rfl]; exact L _ _ _ _ _ e1 rs1 (q.1 rfl)
  | false => rw [if_neg Bool.false_ne_true]; exact ⟨P1, al1, M1, env, _, rs1, q.2 rfl, fun c M2 H2 P2 al2 e2 rs2 q2 => L _ _ _ _ _ (e1.trans e2) rs2 q2⟩
theorem d_not (ha : DT B X a ta) : DT B X (.UnaryOp .Not a pos) (wNotT ta) := by
  refine (pt_not ha).imp fun σ H Q => ?_
  rintro ⟨P, al, M, env, R, rs, hw, L⟩
  exact ⟨P, al, M, env, _, rs, hw, fun b' M1 H1 P1 al1 e1 rs1 q => L _ _ _ _ _ e1 rs1 q⟩
/-- as values -/
def wAndV (wa wb : WE) : WE := fun env M R => wa env M fun d M1 => match d with
  | .bl b => ifB b (wb env M1 R) (R (.bl false) M1)
  | _ => False
def wOrV (wa wb : WE) : WE := fun env M R => wa env M fun d M1 => match d with
  | .bl b => ifB b (R (.bl true) M1) (wb env M1 R)
  | _ => False
def wNotV (wa : WE) : WE := fun env M R => wa env M fun d M1 => match d with
  | .bl b => R (.bl (!b)) M1
  | _ => False
theorem d_one {op} (h : DE B X a wa) : DE B X (.BoolOp op [a] pos) wa := pe_one h
theorem d_andV (ha : DE B X a wa) (hb : DE B X (.BoolOp .And (b :: rest) pos) wb) : DE B X (.BoolOp .And (a :: b :: rest) pos) (wAndV wa wb) := by
  refine (pe_and ha hb).imp fun σ H Q => ?_
  rintro ⟨P, al, M, env, R, rs, hw, L⟩
  refine ⟨P, al, M, env, _, rs, hw, fun d M1 v H1 P1 al1 e1 rs1 r1 q => ?_⟩
  split at q
  · rename_i b'; cases r1; refine ⟨b', rfl, ?_⟩
    cases b' with
    | true => rw [if_pos rfl]; exact ⟨P1, al1, M1, env, _, rs1, q.1 rfl, L.after e1⟩
    | false => rw [if_neg Bool.false_ne_true]; exact L _ _ _ _ _ _ e1 rs1 (.bl false) (q.2 rfl)
  · exact q.elim
theorem d_orV (ha : DE B X a wa) (hb : DE B X (.BoolOp .Or (b :: rest) pos) wb) : DE B X (.BoolOp .Or (a :: b :: rest) pos) (wOrV wa wb) := by
  refine (pe_or ha hb).imp fun σ H Q => ?_
  rintro ⟨P, al, M, env, R, rs, hw, L⟩
  refine ⟨P, al, M, env, _, rs, hw, fun d M1 v H1 P1 al1 e1 rs1 r1 q => ?_⟩
  split at q
  · rename_i b'; cases r1; refine ⟨b', rfl, ?_⟩
    cases b' with
    | true => rw [if_pos rfl]; exact L _ _ _ _ _ _ e1 rs1 (.bl true) (q.1 rfl)
    | false => rw [if_neg Bool.false_ne_true]; exact ⟨P1, al1, M1, env, _, rs1, q.2 rfl, L.after e1⟩
  · exact q.elim
theorem d_notV (ha : DE B X a wa) : DE B X (.UnaryOp .Not a pos) (wNotV wa) := by
  refine (pe_not ha).imp fun σ H Q => ?_
  rintro ⟨P, al, M, env, R, rs, hw, L⟩
  refine ⟨P, al, M, env, _, rs, hw, fun d M1 v H1 P1 al1 e1 rs1 r1 q => ?_⟩
  split at q
  · rename_i b'; cases r1; exact ⟨b', rfl, L _ _ _ _ _ _ e1 rs1 (.bl _) q⟩
  · exact q.elim
def wIfE (t : WT) (wa wb : WE) : WE := fun env M R => t env M fun b M1 => ifB b (wa env M1 R) (wb env M1 R)
theorem d_ifE (hc : DT B X c ta) (ha : DE B X a wa) (hb : DE B X b wb) : DE B X (.IfExp c a b pos) (wIfE ta wa wb) := by
  refine (pe_ifExp hc ha hb).imp fun σ H Q => ?_
  rintro ⟨P, al, M, env, R, rs, hw, L⟩
  refine ⟨P, al, M, env, _, rs, hw, fun b' M1 H1 P1 al1 e1 rs1 q => ?_⟩
  cases b' with
  | true => rw [if_pos rfl]; exact ⟨P1, al1, M1, env, _, rs1, q.1 rfl, L.after e1⟩
  | false => rw [if_neg Bool.false_ne_true]; exact ⟨P1, al1, M1, env, _, rs1, q.2 rfl, L.after e1⟩
/-- an expression that gives a bool, as a test -/
theorem d_test (h : DE B X e we) (he : ∀ whole, isTrue e X.env whole = (do let v ← whole; standAt e.pos; holding [v] (truthy v)) := by intro _; rfl) : DT B X e (wTest we) := by
  refine (pt_val h he).imp fun σ H Q hh => ?_
  exact test_imp (fun _ _ _ z => z) σ H Q hh
/-- any value's truth -/
def truD (M : Mt) (d : D) (R : Bool → Prop) : Prop := match viewD M d with
  | .non => R false
  | .bl b => R b
  | .int i => R (i != 0)
  | .str s => Need (s.length ≤ sizeLine) ∧ R ((s.length : Int) != 0)
  | .lst l => R (!l.isEmpty)
  | .rol l => R (!l.isEmpty)
  | .tup l => R (!l.isEmpty)
  | .dct l => R (!l.isEmpty)
  | _ => False
def wTru (w : WE) : WT := fun env M R => w env M fun d M1 => truD M1 d fun b => R b M1
theorem empty_of {α β : Type} {xs : List α} {ys : List β} (h : xs.length = ys.length) : xs.isEmpty = ys.isEmpty := by
  cases xs <;> cases ys <;> simp_all
theorem RepKs.length {K : PySem.W.Frag} {P : Hp} {al : List Addr} : ∀ {ds : List (Key × D)} {vs : List (Key × V)}, RepKs K P al ds vs → ds.length = vs.length
  | _, _, .nil => rfl
  | _, _, .cons _ t => by simp [RepKs.length t]
theorem d_truth (h : DE B X e we) (he : ∀ whole, isTrue e X.env whole = (do let v ← whole; standAt e.pos; holding [v] (truthy v)) := by intro _; rfl) : DT B X e (wTru we) := by
  refine (pt_truth h he).imp fun σ H Q => ?_
  rintro ⟨P, al, M, env, R, rs, hw, L⟩
  refine ⟨P, al, M, env, _, rs, hw, fun d M1 v H1 P1 al1 e1 rs1 r1 q => ?_⟩
  unfold truD at q
  have L' := fun b => L b M1 H1 P1 al1 e1 rs1
  split at q
  · rename_i h; cases view_non r1 h; exact ⟨_, rfl, L' _ q⟩
  · rename_i h; cases view_bl r1 h; exact ⟨_, rfl, L' _ q⟩
  · rename_i h; cases view_int r1 h; exact ⟨_, rfl, L' _ q⟩
  · rename_i h; cases view_str r1 h; exact ⟨_, ⟨q.1.out, rfl⟩, L' _ q.2⟩
  · rename_i h; obtain ⟨a, xs, rfl, h1, h2⟩ := view_lst rs1.toRS0 r1 h
    rw [empty_of h2.length] at q; exact ⟨_, .inl ⟨xs, .inl (.inl h1), rfl⟩, L' _ q⟩
  · rename_i h; obtain ⟨a, xs, rfl, h1, h2⟩ := view_rol rs1.toRS0 r1 h
    rw [empty_of h2.length] at q; exact ⟨_, .inl ⟨xs, h1, rfl⟩, L' _ q⟩
  · rename_i h; obtain ⟨a, xs, rfl, h1, h2⟩ := view_tup rs1.toRS0 r1 h
    rw [empty_of h2.length] at q; exact ⟨_, .inr (.inl ⟨xs, h1, rfl⟩), L' _ q⟩
  · rename_i h; obtain ⟨a, xs, rfl, h1, h2⟩ := view_dct rs1.toRS0 r1 h
    rw [empty_of h2.length] at q; exact ⟨_, .inr (.inr ⟨xs, h1, rfl⟩), L' _ q⟩
  · exact q.elim
/-- a op1 b op2 c -/
def wChain (o o' : WO2) (wa wb wc : WE) : WE := fun env M R => wa env M fun x M1 => wb env M1 fun y M2 => o x y M2 fun z M3 => match z with
  | .bl k => ifB k (wc env M3 fun u M4 => o' y u M4 R) (R (.bl false) M3)
  | _ => False
theorem chain_imp {K : PySem.W.Frag} {r r' : R2} {o o' : WO2} (h : OpD K B r o) (h' : OpD K B r' o') (σ : L2.St) (H : Hp) (Q : VK) : tD K B (wChain o o' wa wb wc) σ H Q → tChain r r' (tD K B wa) (tD K B wb) (tD K B wc) σ H Q := by
  rintro ⟨P, al, M, env, R, rs, hw, L⟩
  refine ⟨P, al, M, env, _, rs, hw, fun d1 M1 v1 H1 P1 al1 e1 rs1 r1 hw1 => ⟨P1, al1, M1, env, _, rs1, hw1, fun d2 M2 v2 H2 P2 al2 e2 rs2 r2 hw2 => ?_⟩⟩
  refine h _ _ _ _ _ _ _ _ _ _ _ _ rs2 (r1.mono e2.pp e2.pre) r2 hw2 fun d3 M3 v3 H3 P3 al3 e3 rs3 r3 q => ?_
  split at q
  · rename_i k; cases r3; refine ⟨k, rfl, ?_⟩
    have L3 := L.after (e1.trans (e2.trans e3))
    cases k with
    | true =>
      rw [if_pos rfl]
      exact ⟨P3, al3, M3, env, _, rs3, q.1 rfl, fun d4 M4 v4 H4 P4 al4 e4 rs4 r4 hw4 => h' _ _ _ _ _ _ _ _ _ _ _ _ rs4 (r2.mono (e3.trans e4).pp (e3.trans e4).pre) r4 hw4 (L3.after e4)⟩
    | false => rw [if_neg Bool.false_ne_true]; exact L3.here rs3 (.bl false) (q.2 rfl)
  · exact q.elim
theorem d_chain {op op' : CmpOp} {r r' : R2} {o o' : WO2} (ho : OpR X (compareOp op) r) (h : OpD X.K B r o) (ho' : OpR X (compareOp op') r') (h' : OpD X.K B r' o') (ha : DE B X a wa) (hb : DE B X b wb) (hc : DE B X c wc) (hm : lastMarks [op, op'] [b, c] = false := by with_unfolding_all rfl) :
    DE B X (.Compare a [op, op'] [b, c] pos) (wChain o o' wa wb wc) := (pe_chain ho ho' ha hb hc hm).imp (chain_imp h h')
theorem d_chainT {op op' : CmpOp} {r r' : R2} {o o' : WO2} (ho : OpR X (compareOp op) r) (h : OpD X.K B r o) (ho' : OpR X (compareOp op') r') (h' : OpD X.K B r' o') (ha : DE B X a wa) (hb : DE B X b wb) (hc : DE B X c wc) (hm : lastMarks [op, op'] [b, c] = false := by with_unfolding_all rfl) :
    DT B X (.Compare a [op, op'] [b, c] pos) (wTest (wChain o o' wa wb wc)) := (pt_chain ho ho' ha hb hc hm).imp (test_imp (chain_imp h h'))

/-! ### arguments, displays -/
def wNil : WA := fun _ M R => R [] M
def wCons (w : WE) (r : WA) : WA := fun env M R => w env M fun d M1 => r env M1 fun ds M2 => R (d :: ds) M2
variable {was : WA}
theorem da_nil : DA B X [] wNil := by
  refine pa_nil.imp fun σ H Q => ?_
  rintro ⟨P, al, M, env, R, rs, hw, L⟩
  exact L _ _ _ _ _ _ Ext.refl rs .nil hw
theorem da_cons (ha : DE B X e we) (hr : DA B X es was) (hs : starEach (e :: es) X.env = (false, eval e X.env) :: starEach es X.env := by rfl) : DA B X (e :: es) (wCons we was) := by
  refine (pa_cons ha hr hs).imp fun σ H Q => ?_
  rintro ⟨P, al, M, env, R, rs, hw, L⟩
  exact ⟨P, al, M, env, _, rs, hw, fun d M1 v H1 P1 al1 e1 rs1 r1 hw1 => ⟨P1, al1, M1, env, _, rs1, hw1, fun ds M2 vs H2 P2 al2 e2 rs2 r2 q =>
    L _ _ _ _ _ _ (e1.trans e2) rs2 (.cons (r1.mono e2.pp e2.pre) r2) q⟩⟩
def wTup (w : WA) : WE := fun env M R => w env M fun ds M1 => Need (ds.length ≤ sizeLine) ∧ R (.tup ds) M1
def wLst (w : WA) : WE := fun env M R => w env M fun ds M1 => Need (ds.length ≤ sizeLine) ∧ R (.lst ds) M1
/-- a list that will be changed -/
def wLstM (w : WA) : WE := fun env M R => w env M fun ds M1 => Need (ds.length ≤ sizeLine) ∧ R (.cel M1.length) (M1 ++ [.lst ds])
theorem d_tup {k} (h : DA B X es was) : DE B X (.Tuple es k pos) (wTup was) := by
  refine (pe_tup h).imp fun σ H Q => ?_
  rintro ⟨P, al, M, env, R, rs, hw, L⟩
  refine ⟨P, al, M, env, _, rs, hw, fun ds M1 vs H1 P1 al1 e1 rs1 r1 q => ⟨by rw [← r1.length]; exact q.1.out, fun p hp => ?_⟩⟩
  exact (L.after e1).alloc rs1 hp (.tup (.inl (.inl upd_same)) (r1.mono (same_new rs1.toRS0 hp) (List.prefix_refl _))) q.2
theorem d_lst (h : DA B X es was) : DE B X (.List es pos) (wLst was) := by
  refine (pe_lst h).imp fun σ H Q => ?_
  rintro ⟨P, al, M, env, R, rs, hw, L⟩
  refine ⟨P, al, M, env, _, rs, hw, fun ds M1 vs H1 P1 al1 e1 rs1 r1 q => ⟨by rw [← r1.length]; exact q.1.out, fun p hp => ?_⟩⟩
  exact (L.after e1).alloc rs1 hp (.lst upd_same (r1.mono (same_new rs1.toRS0 hp) (List.prefix_refl _))) q.2
theorem Lift.allocM {K : PySem.W.Frag} {P : Hp} {al : List Addr} {M : Mt} {env : Ev} {σ : L2.St} {H : Hp} {p : Addr} {R : D → Mt → Prop} {Q : VK} (L : Lift K B P al env σ H R Q) (rs : RS K B P al M env σ H) (hp : H p = none) {ds : List D} {vs : List V} (r : Reps K P al ds vs)
    (q : R (.cel M.length) (M ++ [.lst ds])) : Q (.ref p) (upd H p (.lst vs)) := by
  obtain ⟨e, r0⟩ := rs.toRS0.allocM (m := .lst ds) (o := .lst vs) hp fun P' al' s h hn H' e => ⟨hn, vs, e, r.mono s h⟩
  refine L _ _ _ _ _ _ e (rs.step e r0) (.cel ?_) q
  rw [← rs.len, List.getElem?_append_right (Nat.le_refl _), Nat.sub_self]; rfl
theorem d_lstM (h : DA B X es was) : DE B X (.List es pos) (wLstM was) := by
  refine (pe_lst h).imp fun σ H Q => ?_
  rintro ⟨P, al, M, env, R, rs, hw, L⟩
  refine ⟨P, al, M, env, _, rs, hw, fun ds M1 vs H1 P1 al1 e1 rs1 r1 q => ⟨by rw [← r1.length]; exact q.1.out, fun p hp => ?_⟩⟩
  exact (L.after e1).allocM rs1 hp r1 q.2

/-! ### calls of builtins -/
abbrev WCl := List D → Mt → (D → Mt → Prop) → Prop
def wCB (c : WCl) (w : WA) : WE := fun env M R => w env M fun ds M1 => c ds M1 R
def CallD (K : PySem.W.Frag) (B : Bs) (r : List V → Hp → VK → Prop) (c : WCl) : Prop := ∀ P al M env σ H vs ds R Q, RS K B P al M env σ H → Reps K P al ds vs → c ds M R → Lift K B P al env σ H R Q → r vs H Q
theorem cb_imp {K : PySem.W.Frag} {r : List V → Hp → VK → Prop} {c : WCl} (h : CallD K B r c) (σ : L2.St) (H : Hp) (Q : VK) : tD K B (wCB c was) σ H Q → tCB r (tDA K B was) σ H Q := by
  rintro ⟨P, al, M, env, R, rs, hw, L⟩
  exact ⟨P, al, M, env, _, rs, hw, fun ds M1 vs H1 P1 al1 e1 rs1 r1 q => h _ _ _ _ _ _ _ _ _ _ rs1 r1 q (L.after e1)⟩
theorem d_callB {id : String} {x : Str} {p : Pos} {r : List V → Hp → VK → Prop} {c : WCl} (hc : CallR X (.builtin id) r) (h : CallD X.K B r c) (hg : Gl X x) (hm : X.mg x = none) (hv : bootBuiltins x = some (.builtin id)) (ha : DA B X (e :: es) was) (hn : x ≠ "__name__" := by decide) (hdb : (x == ("__debug__" : Str)) = false := by decide)
    (he : starEach (e :: es) X.env = (false, eval e X.env) :: starEach es X.env := by rfl) (hpl : (backTo pos (starEach es X.env)).any (·.1) = false := by rfl) : DE B X (.Call (.Name x p) (e :: es) [] pos) (wCB c was) :=
  (pe_callB hc hg hm hv ha hn hdb he hpl).imp (cb_imp h)
theorem d_callTy {T : String} {x : Str} {p : Pos} {r : List V → Hp → VK → Prop} {c : WCl} (hc : CallR X (.type T) r) (h : CallD X.K B r c) (hg : Gl X x) (hm : X.mg x = none) (hv : bootBuiltins x = some (.type T)) (ha : DA B X (e :: es) was) (hn : x ≠ "__name__" := by decide) (hdb : (x == ("__debug__" : Str)) = false := by decide)
    (he : starEach (e :: es) X.env = (false, eval e X.env) :: starEach es X.env := by rfl) (hpl : (backTo pos (starEach es X.env)).any (·.1) = false := by rfl) : DE B X (.Call (.Name x p) (e :: es) [] pos) (wCB c was) :=
  (pe_callTy hc hg hm hv ha hn hdb he hpl).imp (cb_imp h)
end
end L3

namespace L3
open PySem PySem.Spec PyProof.Rows L2
section
variable {X : Cx} {B : Bs} {K : PySem.W.Frag}
/-! ### arithmetic -/
def oAdd : WO2 := fun x y M R => match viewD M x, viewD M y with
  | .int i, .int j => R (.int (i + j)) M
  | .str s, .str t => Need (s.length + t.length ≤ sizeLine) ∧ R (.str (s ++ t)) M
  | .lst a, .lst b => Need (a.length + b.length ≤ sizeLine) ∧ R (.lst (a ++ b)) M
  | .tup a, .tup b => Need (a.length + b.length ≤ sizeLine) ∧ R (.tup (a ++ b)) M
  | _, _ => False
def rAddU (K : PySem.W.Frag) : R2 := fun x y H Q => (rI0 fun i j => .int (i + j)) x y H Q ∨ (fun x y H Q => ∃ i j, x = V.str i ∧ y = .str j ∧ i.length + j.length ≤ sizeLine ∧ Q (.str (i ++ j)) H) x y H Q ∨ rCat x y H Q ∨ rCatA K x y H Q
theorem opAdd : OpR X (binaryOp .Add) (rAddU X.K) := op_add.or (op_add_str.or (op_cat.or op_catA))
theorem oAdd_ok : OpD K B (rAddU K) oAdd := by
  intro P al M env σ H x y dx dy R Q rs r1 r2 h L
  unfold oAdd at h
  split at h
  · rename_i i j e1 e2
    cases view_int r1 e1; cases view_int r2 e2
    exact .inl ⟨i, j, rfl, rfl, L.here rs (.int _) h⟩
  · rename_i s t e1 e2
    cases view_str r1 e1; cases view_str r2 e2
    exact .inr (.inl ⟨s, t, rfl, rfl, h.1.out, L.here rs (.str _) h.2⟩)
  · rename_i s t e1 e2
    obtain ⟨a, xs, rfl, h1, q1⟩ := view_lst rs.toRS0 r1 e1
    obtain ⟨b, ys, rfl, h2, q2⟩ := view_lst rs.toRS0 r2 e2
    refine .inr (.inr (.inl ⟨a, b, xs, ys, rfl, rfl, h1, h2, by rw [← q1.length, ← q2.length]; exact h.1.out, fun p hp => ?_⟩))
    have sm := same_new rs.toRS0 hp (o := .lst (xs ++ ys))
    exact L.alloc rs hp (.lst upd_same ((q1.append q2).mono sm (List.prefix_refl _))) h.2
  · rename_i s t e1 e2
    obtain ⟨a, xs, rfl, h1, q1⟩ := view_tup rs.toRS0 r1 e1
    obtain ⟨b, ys, rfl, h2, q2⟩ := view_tup rs.toRS0 r2 e2
    have r1' := r1; have r2' := r2
    rw [view_same rfl e1] at r1'; rw [view_same rfl e2] at r2'
    refine .inr (.inr (.inr ⟨a, b, xs, ys, rfl, rfl, h1, h2, by rw [← q1.length, ← q2.length]; exact h.1.out, fun e => ?_, fun e1 e => ?_, fun e1 e2 p hp => ?_⟩))
    · subst e; cases q1; exact L.here rs r2' h.2
    · subst e; cases q2; refine L.here rs r1' ?_; have := h.2; rw [List.append_nil] at this; exact this
    · have sm := same_new rs.toRS0 hp (o := .tup (xs ++ ys))
      exact L.alloc rs hp (.tup (.inl (.inl upd_same)) ((q1.append q2).mono sm (List.prefix_refl _))) h.2
  · exact h.elim
/-- ints alone -/
def oI (C : Int → Int → Prop) (g : Int → Int → D) : WO2 := fun x y M R => match viewD M x, viewD M y with
  | .int i, .int j => Need (C i j) ∧ R (g i j) M
  | _, _ => False
def oI0 (g : Int → Int → D) : WO2 := fun x y M R => match viewD M x, viewD M y with
  | .int i, .int j => R (g i j) M
  | _, _ => False
theorem oI_ok {C : Int → Int → Prop} {g : Int → Int → D} {gV : Int → Int → V} (hg : ∀ P al i j, Rep K P al (g i j) (gV i j)) : OpD K B (rI C gV) (oI C g) := by
  intro P al M env σ H x y dx dy R Q rs r1 r2 h L
  unfold oI at h
  split at h
  · rename_i i j e1 e2
    cases view_int r1 e1; cases view_int r2 e2
    exact ⟨i, j, rfl, rfl, h.1.out, L.here rs (hg _ _ _ _) h.2⟩
  · exact h.elim
theorem oI0_ok {g : Int → Int → D} {gV : Int → Int → V} (hg : ∀ P al i j, Rep K P al (g i j) (gV i j)) : OpD K B (rI0 gV) (oI0 g) := by
  intro P al M env σ H x y dx dy R Q rs r1 r2 h L
  unfold oI0 at h
  split at h
  · rename_i i j e1 e2
    cases view_int r1 e1; cases view_int r2 e2
    exact ⟨i, j, rfl, rfl, L.here rs (hg _ _ _ _) h⟩
  · exact h.elim
abbrev oSub : WO2 := oI0 fun i j => .int (i - j)
theorem oSub_ok : OpD K B (rI0 fun i j => .int (i - j)) oSub := oI0_ok fun _ _ _ _ => .int _
abbrev oMod : WO2 := oI (fun _ j => 0 < j) fun i j => .int (i % j)
theorem oMod_ok : OpD K B (rI (fun _ j => 0 < j) fun i j => .int (i % j)) oMod := oI_ok fun _ _ _ _ => .int _
abbrev oFdiv : WO2 := oI CDivW fun i j => .int (i / j)
theorem oFdiv_ok : OpD K B (rI CDivW fun i j => .int (i / j)) oFdiv := oI_ok fun _ _ _ _ => .int _
abbrev oPow : WO2 := oI CPow fun i j => .int (i ^ j.toNat)
theorem oPow_ok : OpD K B (rI CPow fun i j => .int (i ^ j.toNat)) oPow := oI_ok fun _ _ _ _ => .int _
abbrev oShl : WO2 := oI CPow fun i j => .int (i * 2 ^ j.toNat)
theorem oShl_ok : OpD K B (rI CPow fun i j => .int (i * 2 ^ j.toNat)) oShl := oI_ok fun _ _ _ _ => .int _
abbrev oOr : WO2 := oI0 fun i j => .int (Builtin.bitOr i j)
theorem oOr_ok : OpD K B (rI0 fun i j => .int (Builtin.bitOr i j)) oOr := oI0_ok fun _ _ _ _ => .int _
abbrev oAnd : WO2 := oI0 fun i j => .int (Builtin.bitAnd i j)
theorem oAnd_ok : OpD K B (rI0 fun i j => .int (Builtin.bitAnd i j)) oAnd := oI0_ok fun _ _ _ _ => .int _
/-- n times a text -/
def mulS (x : Str) (n : Int) : Str := Txt.mul x n
def rMulS : R2 := fun x y H Q => ∃ s n, x = .str s ∧ y = .int n ∧ MulOk s n ∧ Q (.str (mulS s n)) H
theorem op_mulS : OpR X (binaryOp .Mult) rMulS := by
  intro pins s σ H x y v u Q I rx ry h
  obtain ⟨z, n, rfl, rfl, ok, q⟩ := h
  obtain ⟨t, rfl⟩ := rx
  obtain ⟨t', rfl⟩ := ry
  exact SB.mul ok fun t2 k => ⟨.str _, H, I.tok k, ⟨_, rfl⟩, q⟩
def CMulU (i j : Int) : Prop := CMul i j ∨ CMulW i j
theorem op_mulU : OpR X (binaryOp .Mult) (rI CMulU fun i j => .int (i * j)) := by
  intro pins s σ H x y v u Q I rx ry h
  obtain ⟨i, j, e1, e2, c, q⟩ := h
  rcases c with c | c
  · exact op_mul pins s σ H x y v u Q I rx ry ⟨i, j, e1, e2, c, q⟩
  · exact op_mulW pins s σ H x y v u Q I rx ry ⟨i, j, e1, e2, c, q⟩
def rMulU : R2 := fun x y H Q => rI CMulU (fun i j => .int (i * j)) x y H Q ∨ rMulS x y H Q ∨ rRep x y H Q
theorem opMul : OpR X (binaryOp .Mult) rMulU := op_mulU.or (op_mulS.or op_rep)
def repD (ds : List D) (n : Nat) : List D := (List.replicate n ds).flatten
def oMul : WO2 := fun x y M R => match viewD M x, viewD M y with
  | .int i, .int j => Need (CMulU i j) ∧ R (.int (i * j)) M
  | .str s, .int n => Need (MulOk s n) ∧ R (.str (mulS s n)) M
  | _, _ => False
theorem oMul_ok : OpD K B rMulU oMul := by
  intro P al M env σ H x y dx dy R Q rs r1 r2 h L
  unfold oMul at h
  split at h
  · rename_i i j e1 e2
    cases view_int r1 e1; cases view_int r2 e2
    exact .inl ⟨i, j, rfl, rfl, h.1.out, L.here rs (.int _) h.2⟩
  · rename_i s n e1 e2
    cases view_str r1 e1; cases view_int r2 e2
    exact .inr (.inl ⟨s, n, rfl, rfl, h.1.out, L.here rs (.str _) h.2⟩)
  · exact h.elim

/-! ### comparisons -/
abbrev oLt : WO2 := oI0 fun i j => .bl (decide (i < j))
theorem oLt_ok : OpD K B (rI0 fun i j => .bl (decide (i < j))) oLt := oI0_ok fun _ _ _ _ => .bl _
abbrev oLe : WO2 := oI0 fun i j => .bl (decide (i ≤ j))
theorem oLe_ok : OpD K B (rI0 fun i j => .bl (decide (i ≤ j))) oLe := oI0_ok fun _ _ _ _ => .bl _
abbrev oGt : WO2 := oI0 fun i j => .bl (decide (j < i))
theorem oGt_ok : OpD K B (rI0 fun i j => .bl (decide (j < i))) oGt := oI0_ok fun _ _ _ _ => .bl _
abbrev oGe : WO2 := oI0 fun i j => .bl (decide (j ≤ i))
theorem oGe_ok : OpD K B (rI0 fun i j => .bl (decide (j ≤ i))) oGe := oI0_ok fun _ _ _ _ => .bl _
mutual
/-- plain data of a datum -/
def toP : D → Option PyData
  | .non => some .none
  | .bl b => some (.bool b)
  | .int i => some (.int i)
  | .str s => some (.str s)
  | .tup l => (toPs l).map .tuple
  | .lst l => (toPs l).map .list
  | .rol l => (toPs l).map .list
  | _ => none
def toPs : List D → Option (List PyData)
  | [] => some []
  | d :: r => match toP d, toPs r with
    | some p, some ps => some (p :: ps)
    | _, _ => none
end
section
variable {P : Hp} {al : List Addr} {H : Hp}
mutual
theorem Rep.toDp (s : Same P H) : ∀ {d : D} {v : V} {p : PyData}, Rep K P al d v → toP d = some p → Dp K H v p
  | _, _, _, .non, e => by cases e; exact .non
  | _, _, _, .bl b, e => by cases e; exact .bl b
  | _, _, _, .int i, e => by cases e; exact .int i
  | _, _, _, .str x, e => by cases e; exact .str x
  | _, _, _, .ty n, e => by cases e
  | _, _, _, .adr a, e => by cases e
  | _, _, _, .tup (ds := ds) q r, e => by
    unfold toP at e
    cases h : toPs ds with
    | none => rw [h] at e; cases e
    | some ps => rw [h] at e; cases e; exact .tup (same_seqT s q) (Reps.toDp s r h)
  | _, _, _, .lst (ds := ds) q r, e => by
    unfold toP at e
    cases h : toPs ds with
    | none => rw [h] at e; cases e
    | some ps => rw [h] at e; cases e; exact .lst (.inl (.inl (s _ _ q))) (Reps.toDp s r h)
  | _, _, _, .rol (ds := ds) q r, e => by
    unfold toP at e
    cases h : toPs ds with
    | none => rw [h] at e; cases e
    | some ps => rw [h] at e; cases e; exact .lst (s.seq q) (Reps.toDp s r h)
  | _, _, _, .ptp q r, e => by cases e
  | _, _, _, .dct q r, e => by cases e
  | _, _, _, .fdc q r, e => by cases e
  | _, _, _, .obj q c r, e => by cases e
  | _, _, _, .cls c, e => by cases e
  | _, _, _, .cel h, e => by cases e
theorem Reps.toDp (s : Same P H) : ∀ {ds : List D} {vs : List V} {ps : List PyData}, Reps K P al ds vs → toPs ds = some ps → DpAll K H vs ps
  | _, _, _, .nil, e => by cases e; exact .nil
  | _, _, _, .cons (d := d) (ds := ds) r t, e => by
    unfold toPs at e
    split at e
    · rename_i p ps h1 h2
      cases e
      exact .cons (Rep.toDp s r h1) (Reps.toDp s t h2)
    · cases e
end
end
/-- what an object in the table is as plain data -/
theorem view_dp {P : Hp} {al : List Addr} {M : Mt} {H : Hp} {d : D} {v : V} {p : PyData} (rs : RS0 K B P al M H) (r : Rep K P al d v) (e : toP (viewD M d) = some p) : Dp K H v p := by
  rcases view_cases M d with h | ⟨i, m, rfl, hm, l, h⟩
  · rw [h] at e; exact r.toDp rs.same e
  · rw [h] at e
    obtain ⟨a, rfl, _, c⟩ := cell_at rs hm r
    cases m with
    | lst ds =>
      obtain ⟨_, xs, h1, h2⟩ := c
      unfold toP at e
      cases h : toPs ds with
      | none => rw [h] at e; cases e
      | some ps => rw [h] at e; cases e; exact .lst (.inl (.inl h1)) (h2.toDp rs.same h)
    | dct ks => cases e
    | obj C fs => cases e
    | _ => simp [live] at l
/-- plain data, that == can ask -/
def plainOk (l : List D) : Prop := ∃ ps, toPs l = some ps ∧ SeqAt.shaped (.list ps) = true
theorem toPs_len : ∀ {l : List D} {ps : List PyData}, toPs l = some ps → l.isEmpty = ps.isEmpty
  | [], _, e => by cases e; rfl
  | d :: r, _, e => by
    unfold toPs at e
    split at e
    · cases e; rfl
    · cases e
theorem eqvAll_nil (ps : List PyData) : PyData.eqvAll ps [] = ps.isEmpty := by cases ps <;> simp [PyData.eqvAll]
theorem shaped_tup {ps : List PyData} (h : SeqAt.shaped (.list ps) = true) : SeqAt.shaped (.tuple ps) = true := by
  simpa [SeqAt.shaped, PyData.canLay0, PyData.depth] using h
/-- == of a scalar and a scalar; of data of any depth -/
def oEqB (f : Bool → Bool) : WO2 := fun x y M R => match viewD M x, viewD M y with
  | .int i, .int j => R (.bl (f (decide (i = j)))) M
  | .bl i, .bl j => R (.bl (f (decide (i = j)))) M
  | .str i, .str j => R (.bl (f (decide (i = j)))) M
  | .non, .non => R (.bl (f true)) M
  | .non, .int _ => R (.bl (f false)) M
  | .int _, .non => R (.bl (f false)) M
  | .non, .bl _ => R (.bl (f false)) M
  | .bl _, .non => R (.bl (f false)) M
  | .non, .str _ => R (.bl (f false)) M
  | .str _, .non => R (.bl (f false)) M
  | .int _, .str _ => R (.bl (f false)) M
  | .str _, .int _ => R (.bl (f false)) M
  | .bl _, .str _ => R (.bl (f false)) M
  | .str _, .bl _ => R (.bl (f false)) M
  | .lst l, .lst [] => Need (plainOk l) ∧ R (.bl (f l.isEmpty)) M
  | .tup l, .tup [] => Need (plainOk l) ∧ R (.bl (f l.isEmpty)) M
  | x', y' => match toP x', toP y' with
    | some p, some q => Need (SeqAt.shaped p = true) ∧ Need (SeqAt.shaped q = true) ∧ R (.bl (f (PyData.eqv p q))) M
    | _, _ => False
abbrev oEq : WO2 := oEqB fun b => b
abbrev oNe : WO2 := oEqB fun b => !b
def rEqU (K : PySem.W.Frag) : R2 := fun x y H Q => L2.rEq x y H Q ∨ rEqD K x y H Q
def rNeU (K : PySem.W.Frag) : R2 := fun x y H Q => L2.rNe x y H Q ∨ rNeD K x y H Q
theorem opEq (hu : X.A.units + 64 < cLine) : OpR X (compareOp .Eq) (rEqU X.K) := op_eq.or (op_eqD hu)
theorem opNe (hu : X.A.units + 64 < cLine) : OpR X (compareOp .NotEq) (rNeU X.K) := op_ne.or (op_neD hu)
theorem eqB_core {f : Bool → Bool} {P : Hp} {al : List Addr} {M : Mt} {env : Ev} {σ : L2.St} {H : Hp} {x y : V} {dx dy : D} {R : D → Mt → Prop} {Q : VK} (rs : RS K B P al M env σ H) (r1 : Rep K P al dx x) (r2 : Rep K P al dy y) (h : oEqB f dx dy M R) (L : Lift K B P al env σ H R Q) :
    (scal x y = true ∧ Q (.bl (f (decide (x = y)))) H) ∨ (∃ d e, Dp K H x d ∧ Dp K H y e ∧ SeqAt.shaped d = true ∧ SeqAt.shaped e = true ∧ Q (.bl (f (PyData.eqv d e))) H) := by
  have fin : ∀ b c, R (.bl (f b)) M → b = c → Q (.bl (f c)) H := fun b c q e => by subst e; exact L.here rs (.bl _) q
  unfold oEqB at h
  split at h
  · rename_i i j e1 e2; cases view_int r1 e1; cases view_int r2 e2; exact .inl ⟨rfl, fin _ _ h (by simp)⟩
  · rename_i i j e1 e2; cases view_bl r1 e1; cases view_bl r2 e2; exact .inl ⟨rfl, fin _ _ h (by simp)⟩
  · rename_i i j e1 e2; cases view_str r1 e1; cases view_str r2 e2; exact .inl ⟨rfl, fin _ _ h (by simp)⟩
  · rename_i e1 e2; cases view_non r1 e1; cases view_non r2 e2; exact .inl ⟨rfl, fin _ _ h (by simp)⟩
  · rename_i e1 e2; cases view_non r1 e1; cases view_int r2 e2; exact .inl ⟨rfl, fin _ _ h (by simp)⟩
  · rename_i e1 e2; cases view_int r1 e1; cases view_non r2 e2; exact .inl ⟨rfl, fin _ _ h (by simp)⟩
  · rename_i e1 e2; cases view_non r1 e1; cases view_bl r2 e2; exact .inl ⟨rfl, fin _ _ h (by simp)⟩
  · rename_i e1 e2; cases view_bl r1 e1; cases view_non r2 e2; exact .inl ⟨rfl, fin _ _ h (by simp)⟩
  · rename_i e1 e2; cases view_non r1 e1; cases view_str r2 e2; exact .inl ⟨rfl, fin _ _ h (by simp)⟩
  · rename_i e1 e2; cases view_str r1 e1; cases view_non r2 e2; exact .inl ⟨rfl, fin _ _ h (by simp)⟩
  · rename_i e1 e2; cases view_int r1 e1; cases view_str r2 e2; exact .inl ⟨rfl, fin _ _ h (by simp)⟩
  · rename_i e1 e2; cases view_str r1 e1; cases view_int r2 e2; exact .inl ⟨rfl, fin _ _ h (by simp)⟩
  · rename_i e1 e2; cases view_bl r1 e1; cases view_str r2 e2; exact .inl ⟨rfl, fin _ _ h (by simp)⟩
  · rename_i e1 e2; cases view_str r1 e1; cases view_bl r2 e2; exact .inl ⟨rfl, fin _ _ h (by simp)⟩
  · rename_i l e1 e2
    obtain ⟨⟨ps, h1, h2⟩, h3⟩ := h
    refine .inr ⟨.list ps, .list [], view_dp rs.toRS0 r1 (by rw [e1]; simp [toP, h1]), view_dp rs.toRS0 r2 (by rw [e2]; rfl), h2, rfl, ?_⟩
    exact fin _ _ h3 (by rw [toPs_len h1, ← eqvAll_nil]; simp [PyData.eqv])
  · rename_i l e1 e2
    obtain ⟨⟨ps, h1, h2⟩, h3⟩ := h
    refine .inr ⟨.tuple ps, .tuple [], view_dp rs.toRS0 r1 (by rw [e1]; simp [toP, h1]), view_dp rs.toRS0 r2 (by rw [e2]; rfl), shaped_tup h2, rfl, ?_⟩
    exact fin _ _ h3 (by rw [toPs_len h1, ← eqvAll_nil]; simp [PyData.eqv])
  · split at h
    · rename_i p q e1 e2
      exact .inr ⟨p, q, view_dp rs.toRS0 r1 e1, view_dp rs.toRS0 r2 e2, h.1.out, h.2.1.out, fin _ _ h.2.2 rfl⟩
    · exact h.elim
theorem oEq_ok : OpD K B (rEqU K) oEq := fun P al M env σ H x y dx dy R Q rs r1 r2 h L => eqB_core rs r1 r2 h L
theorem oNe_ok : OpD K B (rNeU K) oNe := fun P al M env σ H x y dx dy R Q rs r1 r2 h L => eqB_core rs r1 r2 h L
/-- a text in a text; a flat thing in a list or tuple of flat things -/
def strIn (x z : Str) : Bool := !(Builtin.Str.occurrences z x 0 z.length 1).isEmpty
theorem strIn_one (c : Nat) (z : Str) : strIn ⟨#[c]⟩ z = decide (c ∈ z.cps.toList) := PySem.StrLaws.found_one z c
mutual
def flatD : D → Option V
  | .non => some .non
  | .bl b => some (.bl b)
  | .int i => some (.int i)
  | .str s => some (.str s)
  | _ => none
end
def flatDs : List D → Option (List V)
  | [] => some []
  | d :: r => match flatD d, flatDs r with
    | some v, some vs => some (v :: vs)
    | _, _ => none
theorem flat_rep {P : Hp} {al : List Addr} {d : D} {v x : V} (r : Rep K P al d v) (e : flatD d = some x) : v = x ∧ flatV x = true := by
  cases r <;> simp [flatD] at e <;> subst e <;> exact ⟨rfl, rfl⟩
theorem flat_reps {P : Hp} {al : List Addr} : ∀ {ds : List D} {vs xs : List V}, Reps K P al ds vs → flatDs ds = some xs → vs = xs ∧ xs.all flatV = true
  | _, _, _, .nil, e => by cases e; exact ⟨rfl, rfl⟩
  | _, _, _, .cons r t, e => by
    unfold flatDs at e
    split at e
    · rename_i v vs h1 h2
      cases e
      obtain ⟨rfl, f1⟩ := flat_rep r h1
      obtain ⟨rfl, f2⟩ := flat_reps t h2
      exact ⟨rfl, by simp [f1, f2]⟩
    · cases e
def rInU (K : PySem.W.Frag) (neg : Bool) : R2 := fun x y H Q => (∃ i j, x = V.str i ∧ y = V.str j ∧ Q (.bl (if neg then !strIn i j else strIn i j)) H) ∨ rIn K neg x y H Q
theorem opIn : OpR X (compareOp .In) (rInU X.K false) := op_in_str.or op_in_seq
theorem opNotIn : OpR X (compareOp .NotIn) (rInU X.K true) := op_notin_str.or op_notIn_seq
@[irreducible] def oIn (neg : Bool) : WO2 := fun x y M R => match viewD M y with
  | .str z => match viewD M x with
    | .str s => R (.bl (if neg then !strIn s z else strIn s z)) M
    | _ => False
  | y' => match seqD y' with
    | some l => match flatD x, flatDs l with
      | some v, some vs => R (.bl (if neg then !inV v vs else inV v vs)) M
      | _, _ => False
    | none => False
theorem oIn_ok {neg : Bool} : OpD K B (rInU K neg) (oIn neg) := by
  intro P al M env σ H x y dx dy R Q rs r1 r2 h L
  unfold oIn at h
  split at h
  · rename_i z e2
    split at h
    · rename_i s e1
      cases view_str r1 e1; cases view_str r2 e2
      exact .inl ⟨_, _, rfl, rfl, L.here rs (.bl _) h⟩
    · exact h.elim
  · split at h
    · rename_i l e2
      obtain ⟨a, xs, rfl, h1, q1⟩ := view_seq rs.toRS0 r2 e2
      split at h
      · rename_i v vs e3 e4
        obtain ⟨rfl, f1⟩ := flat_rep r1 e3
        obtain ⟨rfl, f2⟩ := flat_reps q1 e4
        exact .inr ⟨a, _, rfl, h1, f1, f2, L.here rs (.bl _) h⟩
      · exact h.elim
    · exact h.elim
/-- is None -/
def oIs (neg : Bool) : WO2 := fun x y M R => match y with
  | .non => match x with
    | .non => R (.bl (!neg)) M
    | _ => R (.bl neg) M
  | _ => False
theorem oIs_ok : OpD K B (fun x y H Q => y = .non ∧ Q (.bl (decide (x = .non))) H) (oIs false) := by
  intro P al M env σ H x y dx dy R Q rs r1 r2 h L
  unfold oIs at h
  split at h
  · cases r2
    refine ⟨rfl, ?_⟩
    split at h
    · cases r1; exact L.here rs (.bl _) h
    · have : decide (x = V.non) = false := by cases r1 <;> simp_all
      rw [this]; exact L.here rs (.bl _) h
  · exact h.elim
theorem oIsNot_ok : OpD K B (fun x y H Q => y = .non ∧ Q (.bl (!decide (x = .non))) H) (oIs true) := by
  intro P al M env σ H x y dx dy R Q rs r1 r2 h L
  unfold oIs at h
  split at h
  · cases r2
    refine ⟨rfl, ?_⟩
    split at h
    · cases r1; exact L.here rs (.bl _) h
    · have : decide (x = V.non) = false := by cases r1 <;> simp_all
      rw [this]; exact L.here rs (.bl _) h
  · exact h.elim
end

/-! ### subscripts, slices -/
section
variable {X : Cx} {B : Bs} {K : PySem.W.Frag} {a b e : Expr} {wa wb we : WE} {pos : Pos}
theorem Reps.atI {P : Hp} {al : List Addr} {ds : List D} {vs : List V} (r : Reps K P al ds vs) {i : Int} {d : D} (e : L2.atI ds i = some d) : ∃ v, L2.atI vs i = some v ∧ Rep K P al d v := by
  unfold L2.atI at e ⊢
  rw [← r.length]
  cases h : ixN ds.length i with
  | none => rw [h] at e; cases e
  | some j => rw [h] at e; exact r.get e
def oIx : WO2 := fun x y M R => match y with
  | .int i => match viewD M x with
    | .str s => Need (s.length ≤ sizeLine) ∧ (match L2.atI s.cps.toList i with
      | some c => R (.str ⟨#[c]⟩) M
      | none => False)
    | x' => match seqD x' with
      | some l => match L2.atI l i with
        | some d => R d M
        | none => False
      | none => False
  | _ => False
theorem oIx_ok : OpD K B (rIx K) oIx := by
  intro P al M env σ H x y dx dy R Q rs r1 r2 h L
  unfold oIx at h
  split at h
  · rename_i i
    cases r2
    split at h
    · rename_i s e1
      cases view_str r1 e1
      obtain ⟨h1, h2⟩ := h
      split at h2
      · rename_i c e; exact .inr (.inr ⟨s, i, c, rfl, rfl, h1.out, e, L.here rs (.str _) h2⟩)
      · exact h2.elim
    · split at h
      · rename_i l e1
        obtain ⟨a, xs, rfl, h1, q1⟩ := view_seq rs.toRS0 r1 e1
        split at h
        · rename_i d e
          obtain ⟨v, e2, q2⟩ := q1.atI e
          rcases h1 with h1 | h1
          · exact .inl ⟨a, xs, i, v, rfl, rfl, h1, e2, L.here rs q2 h⟩
          · exact .inr (.inl ⟨a, xs, i, v, rfl, rfl, h1, e2, L.here rs q2 h⟩)
        · exact h.elim
      · exact h.elim
  · exact h.elim
theorem d_ix (ha : DE B X a wa) (hb : DE B X b wb) (hs : PlainIx b := by intro _ _; rfl) : DE B X (.Subscript a b pos) (wOp oIx wa wb) := (pe_ix ix_seq ha hb hs).imp (op_imp oIx_ok)
abbrev WO := Ev → Mt → (Option Int → Mt → Prop) → Prop
def tDO (K : PySem.W.Frag) (B : Bs) (w : WO) : TO := fun σ H Q => ∃ P al M env R, RS K B P al M env σ H ∧ w env M R ∧ ∀ o M' H' P' al', Ext P al H P' al' H' → RS K B P' al' M' env σ H' → R o M' → Q o H'
theorem _root_.L2.PO.imp {X : Cx} {e : Option Expr} {t u : TO} (h : PO X e t) (i : ∀ σ H Q, u σ H Q → t σ H Q) : PO X e u := ⟨fun pins s σ H Q I q => h.run pins s σ H Q I (i σ H Q q)⟩
abbrev DO (B : Bs) (X : Cx) (e : Option Expr) (w : WO) : Prop := PO X e (tDO X.K B w)
def wNoP : WO := fun _ M R => R none M
def wP (w : WE) : WO := fun env M R => w env M fun d M1 => match d with
  | .int i => R (some i) M1
  | _ => False
theorem do_none : DO B X none wNoP := by
  refine po_none.imp fun σ H Q => ?_
  rintro ⟨P, al, M, env, R, rs, hw, L⟩
  exact L _ _ _ _ _ Ext.refl rs hw
theorem do_some (h : DE B X e we) : DO B X (some e) (wP we) := by
  refine (po_some h).imp fun σ H Q => ?_
  rintro ⟨P, al, M, env, R, rs, hw, L⟩
  refine ⟨P, al, M, env, _, rs, hw, fun d M1 v H1 P1 al1 e1 rs1 r1 q => ?_⟩
  split at q
  · cases r1; exact ⟨_, rfl, L _ _ _ _ _ e1 rs1 q⟩
  · exact q.elim
def cutD (xs : List D) (lo hi : Option Int) : List D := (xs.drop (HT.sIx xs.length 0 lo)).take (HT.sIx xs.length xs.length hi - HT.sIx xs.length 0 lo)
theorem Reps.cut {P : Hp} {al : List Addr} {ds : List D} {vs : List V} (r : Reps K P al ds vs) (lo hi : Option Int) : Reps K P al (cutD ds lo hi) (cutV vs lo hi) := by
  unfold cutD cutV
  rw [r.length]
  exact (r.drop _).take _
def wSl (we : WE) (wl wh : WO) : WE := fun env M R => we env M fun x M1 => wl env M1 fun lo M2 => wh env M2 fun hi M3 => match viewD M3 x with
  | .str s => Need (s.length ≤ sizeLine) ∧ R (.str (cutS s lo hi)) M3
  | .lst l => R (.lst (cutD l lo hi)) M3
  | .rol l => R (.lst (cutD l lo hi)) M3
  | .tup l => R (.tup (cutD l lo hi)) M3
  | _ => False
theorem cut_all {xs : List D} {lo hi : Option Int} (h : HT.sIx xs.length 0 lo = 0 ∧ HT.sIx xs.length xs.length hi = xs.length) : cutD xs lo hi = xs := by
  unfold cutD; rw [h.1, h.2]; simp
theorem d_sl {lo hi : Option Expr} {wl wh : WO} {p2 : Pos} (he : DE B X e we) (hl : DO B X lo wl) (hh : DO B X hi wh) : DE B X (.Subscript e (.Slice lo hi none p2) pos) (wSl we wl wh) := by
  refine (pe_slice (sl_str.or (sl_list.or sl_tupA)) he hl hh).imp fun σ H Q => ?_
  rintro ⟨P, al, M, env, R, rs, hw, L⟩
  refine ⟨P, al, M, env, _, rs, hw, fun d M1 v H1 P1 al1 e1 rs1 r1 hw1 => ⟨P1, al1, M1, env, _, rs1, hw1, fun lo M2 H2 P2 al2 e2 rs2 hw2 => ⟨P2, al2, M2, env, _, rs2, hw2, fun hi M3 H3 P3 al3 e3 rs3 q => ?_⟩⟩⟩
  have r3 := r1.mono (e2.trans e3).pp (e2.trans e3).pre
  have L3 := L.after (e1.trans (e2.trans e3))
  split at q
  · rename_i s e; cases view_str r3 e; exact .inl ⟨s, rfl, q.1.out, L3.here rs3 (.str _) q.2⟩
  · rename_i l e
    obtain ⟨a, xs, rfl, h1, q1⟩ := view_lst rs3.toRS0 r3 e
    refine .inr (.inl ⟨a, xs, rfl, .inl (.inl h1), fun p hp => ?_⟩)
    exact L3.alloc rs3 hp (.lst upd_same ((q1.cut lo hi).mono (same_new rs3.toRS0 hp) (List.prefix_refl _))) q
  · rename_i l e
    obtain ⟨a, xs, rfl, h1, q1⟩ := view_rol rs3.toRS0 r3 e
    refine .inr (.inl ⟨a, xs, rfl, h1, fun p hp => ?_⟩)
    exact L3.alloc rs3 hp (.lst upd_same ((q1.cut lo hi).mono (same_new rs3.toRS0 hp) (List.prefix_refl _))) q
  · rename_i l e
    obtain ⟨a, xs, rfl, h1, q1⟩ := view_tup rs3.toRS0 r3 e
    refine .inr (.inr ⟨a, xs, rfl, h1, fun hz => ?_, fun hz p hp => ?_⟩)
    · rw [← q1.length] at hz
      rw [cut_all hz] at q
      rw [view_same rfl e] at r3
      exact L3.here rs3 r3 q
    · exact L3.alloc rs3 hp (.tup (.inl (.inl upd_same)) ((q1.cut lo hi).mono (same_new rs3.toRS0 hp) (List.prefix_refl _))) q
  · exact q.elim
end
end L3

namespace L3
open PySem PySem.Spec PyProof.Rows L2
section
variable {X : Cx} {B : Bs} {K : PySem.W.Frag} {a b e : Expr} {es : List Expr} {wa wb we : WE} {was : WA} {pos : Pos} {st : Stmt} {rest : List Stmt} {w u : WS}
/-! ### statements -/
theorem RS.put {P : Hp} {al : List Addr} {M : Mt} {env : Ev} {σ : L2.St} {H : Hp} {d : D} {v : V} (rs : RS K B P al M env σ H) (i : Nat) (r : Rep K P al d v) : RS K B P al M (env.set i (some d)) (σ.set i (some v)) H := by
  refine ⟨rs.toRS0, by simp [rs.slen], fun j x h => ?_⟩
  by_cases hj : j = i
  · subst hj
    have hi : j < env.length := by
      have := (List.getElem?_eq_some_iff.mp h).1
      simpa using this
    rw [List.getElem?_set_self hi] at h
    cases h
    exact ⟨v, List.getElem?_set_self (by rw [← rs.slen]; exact hi), r⟩
  · rw [List.getElem?_set_ne (Ne.symm hj)] at h ⊢
    exact rs.slot j x h
def wSeq (w u : WS) : WS := fun k env M => w { k with nx := u k } env M
def wSkip : WS := fun k env M => k.nx env M
theorem ds_nil : DSs B X [] wSkip := by
  refine pss_nil.imp fun D σ H => ?_
  rintro ⟨P, al, M, env, k, rs, hw, L⟩
  exact L.nx _ _ _ _ _ _ Ext.refl rs hw
theorem ds_cons (h1 : DS B X st w) (h2 : DSs B X rest u) : DSs B X (st :: rest) (wSeq w u) := by
  refine (pss_cons h1 h2).imp fun D σ H => ?_
  rintro ⟨P, al, M, env, k, rs, hw, L⟩
  exact ⟨P, al, M, env, _, rs, hw, ⟨fun env' M' σ' H' P' al' e rs' q => ⟨P', al', M', env', k, rs', q, L.after e⟩, L.rt, L.bk, L.ct⟩⟩
theorem ds_one (h1 : DS B X st w) : DSs B X [st] w := pss_one h1
theorem d_pass : DS B X (.Pass pos) wSkip := by
  refine ps_pass.imp fun D σ H => ?_
  rintro ⟨P, al, M, env, k, rs, hw, L⟩
  exact L.nx _ _ _ _ _ _ Ext.refl rs hw
def wBrk : WS := fun k env M => k.bk env M
def wCnt : WS := fun k env M => k.ct env M
theorem d_brk : DS B X (.Break pos) wBrk := by
  refine ps_break.imp fun D σ H => ?_
  rintro ⟨P, al, M, env, k, rs, hw, L⟩
  exact L.bk _ _ _ _ _ _ Ext.refl rs hw
theorem d_cnt : DS B X (.Continue pos) wCnt := by
  refine ps_continue.imp fun D σ H => ?_
  rintro ⟨P, al, M, env, k, rs, hw, L⟩
  exact L.ct _ _ _ _ _ _ Ext.refl rs hw
theorem d_doc {x j pos pos'} : DS B X (.Expr (.Constant (.str x) j pos) pos') wSkip := by
  refine ps_doc.imp fun D σ H => ?_
  rintro ⟨P, al, M, env, k, rs, hw, L⟩
  exact L.nx _ _ _ _ _ _ Ext.refl rs hw
def wExp (we : WE) : WS := fun k env M => we env M fun _ M1 => k.nx env M1
theorem d_exp (he : DE B X e we) (hs : swapsWith e none pos.line X.env = pure false := by rfl) : DS B X (.Expr e pos) (wExp we) := by
  refine (ps_expr he hs).imp fun D σ H => ?_
  rintro ⟨P, al, M, env, k, rs, hw, L⟩
  exact ⟨P, al, M, env, _, rs, hw, fun d M1 v H1 P1 al1 e1 rs1 r1 q => L.nx _ _ _ _ _ _ e1 rs1 q⟩
def wRet (we : WE) : WS := fun k env M => we env M k.rt
theorem d_ret (he : DE B X e we) : DS B X (.Return (some e) pos) (wRet we) := by
  refine (ps_ret he).imp fun D σ H => ?_
  rintro ⟨P, al, M, env, k, rs, hw, L⟩
  exact ⟨P, al, M, env, _, rs, hw, fun d M1 v H1 P1 al1 e1 rs1 r1 q => L.rt _ _ _ _ _ _ e1 rs1.toRS0 r1 q⟩
def wRetN : WS := fun k env M => k.rt .non M
theorem d_retN : DS B X (.Return none pos) wRetN := by
  refine ps_retN.imp fun D σ H => ?_
  rintro ⟨P, al, M, env, k, rs, hw, L⟩
  exact L.rt _ _ _ _ _ _ Ext.refl rs.toRS0 .non hw
/-- what is returned is published: an object that was made and filled here -/
@[irreducible] def frz (d : D) (M : Mt) (R : D → Mt → Prop) : Prop := match d with
  | .cel i => match M[i]? with
    | some (.lst l) => R (.lst l) (M.set i .non)
    | some (.dct l) => R (.dct l) (M.set i .non)
    | some (.obj C fs) => R (.obj C fs) (M.set i .non)
    | _ => False
  | _ => R d M
theorem RS0.freeze {P : Hp} {al : List Addr} {M : Mt} {H : Hp} {i : Nat} {m : D} {v : V} (rs : RS0 K B P al M H) (hm : M[i]? = some m) (hl : live m = true) (q : Rep K P al (.cel i) v) :
    ∃ P', Ext P al H P' al H ∧ RS0 K B P' al (M.set i .non) H ∧ Rep K P' al m v := by
  obtain ⟨a, rfl, ha, c⟩ := cell_at rs hm q
  obtain ⟨hp, o, ho⟩ := live_cell hl c
  have ia : a ∈ al := List.mem_of_getElem? ha
  have sm : Same P (upd P a o) := fun b x h => by rw [upd_ne (ne_of_none h hp)]; exact h
  have e : Ext P al H (upd P a o) al H := ⟨sm, List.prefix_refl _, fun _ _ h _ => h, fun b m n => absurd m n, fun b x h _ hb n => by
    rw [upd_ne (fun z => n (by rw [z]; exact ia))]; exact hb⟩
  have im : i < M.length := (List.getElem?_eq_some_iff.mp hm).1
  have gm : ∀ (j : Nat) (n : D), (M.set i .non)[j]? = some n → live n = true → j ≠ i ∧ M[j]? = some n := fun j n h ln => by
    by_cases hj : j = i
    · subst hj; rw [List.getElem?_set_self im] at h; cases h; cases ln
    · rw [List.getElem?_set_ne (Ne.symm hj)] at h; exact ⟨hj, h⟩
  refine ⟨upd P a o, e, ⟨rs.base.trans e, fun b x h => ?_, by simp [rs.len], fun j b n h1 h2 => ?_, fun j k b n n' h1 h2 h3 h4 l1 l2 => ?_, rs.trk⟩, ?_⟩
  · by_cases hb : b = a
    · subst hb; rw [upd_same] at h; cases h; exact ho
    · rw [upd_ne hb] at h; exact rs.same _ _ h
  · by_cases ln : live n = true
    · obtain ⟨hj, g⟩ := gm j n h2 ln
      have c' := rs.cell j b n h1 g
      have hne : b ≠ a := fun z => hj (rs.inj j i a n m (z ▸ h1) ha g hm ln hl)
      exact c'.mono sm (List.prefix_refl _) (fun _ => by rw [upd_ne hne]; exact (live_cell ln c').1) fun _ _ h => h
    · cases n <;> first | trivial | exact absurd rfl ln | skip
      have hj : j ≠ i := fun z => by subst z; rw [List.getElem?_set_self im] at h2; cases h2
      rw [List.getElem?_set_ne (Ne.symm hj)] at h2
      exact ExCell.mono (rs.cell j b _ h1 h2) sm (List.prefix_refl _)
  · obtain ⟨_, g3⟩ := gm j n h3 l1
    obtain ⟨_, g4⟩ := gm k n' h4 l2
    exact rs.inj j k b n n' h1 h2 g3 g4 l1 l2
  · cases m with
    | lst ds => obtain ⟨_, xs, h1, h2⟩ := c; rw [ho] at h1; cases h1; exact .lst upd_same (h2.mono sm (List.prefix_refl _))
    | dct ds => obtain ⟨_, xs, h1, h2⟩ := c; rw [ho] at h1; cases h1; exact .dct upd_same (h2.mono sm (List.prefix_refl _))
    | obj C ds => obtain ⟨_, _, dx, xs, h1, hc, h2⟩ := c; rw [ho] at h1; cases h1; exact .obj upd_same hc (h2.mono sm (List.prefix_refl _))
    | _ => simp [live] at hl
theorem frz_ok {P : Hp} {al : List Addr} {M : Mt} {H : Hp} {d : D} {v : V} {R : D → Mt → Prop} (rs : RS0 K B P al M H) (r : Rep K P al d v) (q : frz d M R) : ∃ d' M' P', Ext P al H P' al H ∧ RS0 K B P' al M' H ∧ Rep K P' al d' v ∧ R d' M' := by
  unfold frz at q
  split at q
  · split at q
    · rename_i hm; obtain ⟨P', e, r0, r1⟩ := rs.freeze hm rfl r; exact ⟨_, _, P', e, r0, r1, q⟩
    · rename_i hm; obtain ⟨P', e, r0, r1⟩ := rs.freeze hm rfl r; exact ⟨_, _, P', e, r0, r1, q⟩
    · rename_i hm; obtain ⟨P', e, r0, r1⟩ := rs.freeze hm rfl r; exact ⟨_, _, P', e, r0, r1, q⟩
    · exact q.elim
  · exact ⟨d, M, P, Ext.refl, rs, r, q⟩
def wRetF (we : WE) : WS := fun k env M => we env M fun d M1 => frz d M1 k.rt
theorem d_retF (he : DE B X e we) : DS B X (.Return (some e) pos) (wRetF we) := by
  refine (ps_ret he).imp fun D σ H => ?_
  rintro ⟨P, al, M, env, k, rs, hw, L⟩
  refine ⟨P, al, M, env, _, rs, hw, fun d M1 v H1 P1 al1 e1 rs1 r1 q => ?_⟩
  obtain ⟨d', M', P', e2, r0, r2, q2⟩ := frz_ok rs1.toRS0 r1 q
  exact L.rt _ _ _ _ _ _ (e1.trans e2) r0 r2 q2
/-- a name's object is published ahead of a statement -/
def wFrz (i : Nat) (w : WS) : WS := fun k env M => match env[i]? with
  | some (some d) => frz d M fun d' M' => w k (env.map fun x => match x with
    | some y => match y, d with
      | .cel m, .cel n => if m = n then some d' else some y
      | _, _ => some y
    | none => none) M'
  | _ => False
def wIfS (t : WT) (w u : WS) : WS := fun k env M => t env M fun b M1 => ifB b (w k env M1) (u k env M1)
theorem d_if {c : Expr} {x y : List Stmt} {t : WT} (hc : DT B X c t) (ha : DSs B X x w) (hb : DSs B X y u) : DS B X (.If c x y pos) (wIfS t w u) := by
  refine (ps_if hc ha hb).imp fun D σ H => ?_
  rintro ⟨P, al, M, env, k, rs, hw, L⟩
  refine ⟨P, al, M, env, _, rs, hw, fun b' M1 H1 P1 al1 e1 rs1 q => ?_⟩
  cases b' with
  | true => rw [if_pos rfl]; exact ⟨P1, al1, M1, env, k, rs1, q.1 rfl, L.after e1⟩
  | false => rw [if_neg Bool.false_ne_true]; exact ⟨P1, al1, M1, env, k, rs1, q.2 rfl, L.after e1⟩
/-! ### targets -/
def gN (i : Nat) : WG := fun d env M R => R (env.set i (some d)) M
theorem dg_name {i : Nat} {x : Str} (hN : X.N.Nodup) (hi : X.N[i]? = some x := by rfl) (hx : Loc X.env.scope x := by first | exact .inl rfl | exact .inr rfl) (hf : X.fn x = true ∨ X.env.scope.names.lookup x = some .local := by first | exact .inl rfl | exact .inr rfl | assumption) : DG B X (.Name x pos) (gN i) := by
  refine (pg_name hN hi hx hf).imp fun v σ H Q => ?_
  rintro ⟨P, al, M, env, d, R, rs, r, hw, L⟩
  exact L _ _ _ _ _ _ Ext.refl (rs.put i r) hw
abbrev WGs := List D → Ev → Mt → (Ev → Mt → Prop) → Prop
def tDGs (K : PySem.W.Frag) (B : Bs) (g : WGs) : TGs := fun vs σ H Q => ∃ P al M env ds R, RS K B P al M env σ H ∧ Reps K P al ds vs ∧ g ds env M R ∧
  ∀ env' M' σ' H' P' al', Ext P al H P' al' H' → RS K B P' al' M' env' σ' H' → R env' M' → Q σ' H'
theorem _root_.L2.PGs.imp {X : Cx} {e : List Expr} {t u : TGs} (h : PGs X e t) (i : ∀ v σ H Q, u v σ H Q → t v σ H Q) : PGs X e u := ⟨fun pins s σ H v u' Q I r q => h.run pins s σ H v u' Q I r (i v σ H Q q)⟩
abbrev DGs (B : Bs) (X : Cx) (es : List Expr) (g : WGs) : Prop := PGs X es (tDGs X.K B g)
def gsNil : WGs := fun ds env M R => match ds with
  | [] => R env M
  | _ => False
def gsCons (g : WG) (r : WGs) : WGs := fun ds env M R => match ds with
  | d :: t => g d env M fun env1 M1 => r t env1 M1 R
  | [] => False
theorem dgs_nil : DGs B X [] gsNil := by
  refine pgs_nil.imp fun v σ H Q => ?_
  rintro ⟨P, al, M, env, ds, R, rs, r, hw, L⟩
  cases r with
  | nil => exact ⟨rfl, L _ _ _ _ _ _ Ext.refl rs hw⟩
  | cons _ _ => exact hw.elim
theorem dgs_cons {g : WG} {gs : WGs} (h1 : DG B X e g) (h2 : DGs B X es gs) (hs : (assignEach (e :: es) X.env).map (·.2) = assign e X.env :: (assignEach es X.env).map (·.2) := by rfl) : DGs B X (e :: es) (gsCons g gs) := by
  refine (pgs_cons h1 h2 hs).imp fun v σ H Q => ?_
  rintro ⟨P, al, M, env, ds, R, rs, r, hw, L⟩
  cases r with
  | nil => exact hw.elim
  | cons r1 r2 =>
    exact ⟨_, _, rfl, P, al, M, env, _, _, rs, r1, hw, fun env' M' σ' H' P' al' e rs' q => ⟨P', al', M', env', _, R, rs', r2.mono e.pp e.pre, q, fun env2 M2 σ2 H2 P2 al2 e2 rs2 q2 => L _ _ _ _ _ _ (e.trans e2) rs2 q2⟩⟩
/-- a, b, .. = a tuple -/
def gT (n : Nat) (g : WGs) : WG := fun d env M R => match d with
  | .tup ds => Need (ds.length = n) ∧ g ds env M R
  | _ => False
theorem dg_tup {k : Nat} {g : WGs} {n : Nat} (hc : X.calm = true) (h : DGs B X es g) (hn : (assignEach es X.env).length = n := by rfl) (hst : (assignEach es X.env).findIdx? (·.1) = none := by rfl) : DG B X (.Tuple es k pos) (gT n g) := by
  refine (pg_tup hc h hn hst).imp fun v σ H Q => ?_
  rintro ⟨P, al, M, env, d, R, rs, r, hw, L⟩
  unfold gT at hw
  split at hw
  · cases r with
    | tup h1 h2 => exact ⟨_, _, rfl, same_seqT rs.same h1, by rw [← h2.length]; exact hw.1.out, P, al, M, env, _, R, rs, h2, hw.2, L⟩
  · exact hw.elim
/-- xs[i] = .., xs an object that changes -/
@[irreducible] def dsetIx (d o i : D) (M2 : Mt) (R : Mt → Prop) : Prop := match o, i with
  | .cel n, .int k => match M2[n]? with
    | some (.lst l) => match ixN l.length k with
      | some j => R (M2.set n (.lst (l.set j d)))
      | none => False
    | _ => False
  | _, _ => False
def gIxL (wo wi : WE) : WG := fun d env M R => wo env M fun o M1 => wi env M1 fun i M2 => dsetIx d o i M2 (R env)
theorem Reps.setR {P : Hp} {al : List Addr} {ds : List D} {vs : List V} {d : D} {v : V} (r : Reps K P al ds vs) (q : Rep K P al d v) (i : Nat) : Reps K P al (ds.set i d) (vs.set i v) := Reps.set q i r
theorem dg_ixL {o i : Expr} {wo wi : WE} (ho : DE B X o wo) (hi : DE B X i wi) (ha : ∀ v, assign (.Subscript o i pos) X.env v = (do
      let ov ← holding [v] (eval o X.env)
      let iv ← holding [v, ov] (eval i X.env)
      standAt pos
      holding [v, ov, iv] (setItem ov iv v)
      release [v, ov, iv] []) := by intro _; rfl) : DG B X (.Subscript o i pos) (gIxL wo wi) := by
  refine (pg_sub ho hi set_list ha).imp fun v σ H Q => ?_
  rintro ⟨P, al, M, env, d, R, rs, r, hw, L⟩
  refine ⟨P, al, M, env, _, rs, hw, fun d1 M1 v1 H1 P1 al1 e1 rs1 r1 hw1 => ⟨P1, al1, M1, env, _, rs1, hw1, fun d2 M2 v2 H2 P2 al2 e2 rs2 r2 q => ?_⟩⟩
  unfold dsetIx at q
  split at q
  · rename_i n k
    split at q
    · rename_i l hm
      split at q
      · rename_i j hj
        cases r2
        obtain ⟨a, rfl, ha, _, xs, h1, h2⟩ := cell_at rs2.toRS0 hm (r1.mono e2.pp e2.pre)
        have e12 := e1.trans e2
        obtain ⟨e3, r3⟩ := rs2.toRS0.change (o' := .lst (xs.set j v)) (m' := .lst (l.set j d)) ha hm rfl fun H' hH => ⟨(live_cell rfl (rs2.cell n a _ ha hm)).1, _, hH, h2.setR (r.mono e12.pp e12.pre) j⟩
        exact ⟨a, xs, k, j, rfl, rfl, h1, by rw [← h2.length]; exact hj, L _ _ _ _ _ _ (e12.trans e3) (rs2.step e3 r3) q⟩
      · exact q.elim
    · exact q.elim
  · exact q.elim
/-- target = value -/
def wAsg (we : WE) (g : WG) : WS := fun k env M => we env M fun d M1 => g d env M1 k.nx
theorem d_asg {tg : Expr} {g : WG} (he : DE B X e we) (hg : DG B X tg g) (hs : swapsWithSole [tg] e pos.line X.env = pure false := by rfl) (hw : swappedStores [tg] e X.env = pure none := by rfl)
    (h1 : (assignEach [tg] X.env).map (·.2) = [assign tg X.env] := by rfl) : DS B X (.Assign [tg] e pos) (wAsg we g) := by
  refine (ps_asg he hg hs hw h1).imp fun D σ H => ?_
  rintro ⟨P, al, M, env, k, rs, hw, L⟩
  exact ⟨P, al, M, env, _, rs, hw, fun d M1 v H1 P1 al1 e1 rs1 r1 q => ⟨P1, al1, M1, env, d, _, rs1, r1, q, fun env' M' σ' H' P' al' e rs' q' => L.nx _ _ _ _ _ _ (e1.trans e) rs' q'⟩⟩
theorem d_set {i : Nat} {x : Str} {pos' : Pos} (hN : X.N.Nodup) (he : DE B X e we) (hi : X.N[i]? = some x := by rfl) (hx : Loc X.env.scope x := by first | exact .inl rfl | exact .inr rfl) (hs : swapsWith e (some (.Name x pos')) pos.line X.env = pure false := by rfl)
    (hf : X.fn x = true ∨ X.env.scope.names.lookup x = some .local := by first | exact .inl rfl | exact .inr rfl | assumption) : DS B X (.Assign [.Name x pos'] e pos) (wAsg we (gN i)) := by
  refine (ps_set hN hi hx he hs hf).imp fun D σ H => ?_
  rintro ⟨P, al, M, env, k, rs, hw, L⟩
  exact ⟨P, al, M, env, _, rs, hw, fun d M1 v H1 P1 al1 e1 rs1 r1 q => L.nx _ _ _ _ _ _ e1 (rs1.put i r1) q⟩
/-- a, b = x, y -/
def wPar (i j : Nat) (was : WA) : WS := fun k env M => was env M fun ds M1 => match ds with
  | [d1, d2] => k.nx ((env.set i (some d1)).set j (some d2)) M1
  | _ => False
theorem d_par {i j : Nat} {x y : Str} {px py pt : Pos} {kt k2 pt2} (hc : X.calm = true) (hN : X.N.Nodup) (hi : X.N[i]? = some x) (hj : X.N[j]? = some y) (hij : i ≠ j)
    (hx : X.env.scope.names.lookup x = some .local) (hy : X.env.scope.names.lookup y = some .local) (ha : DA B X [a, b] was)
    (hw : swappedStores [.Tuple [.Name x px, .Name y py] kt pt] (.Tuple [a, b] k2 pt2) X.env = pure (some [x, y]))
    (hs : swapsWithSole [.Tuple [.Name x px, .Name y py] kt pt] (.Tuple [a, b] k2 pt2) pos.line X.env = pure false := by rfl) :
    DS B X (.Assign [.Tuple [.Name x px, .Name y py] kt pt] (.Tuple [a, b] k2 pt2) pos) (wPar i j was) := by
  refine (ps_par hc hN hi hj hij hx hy ha hw hs).imp fun D σ H => ?_
  rintro ⟨P, al, M, env, k, rs, hw, L⟩
  refine ⟨P, al, M, env, _, rs, hw, fun ds M1 vs H1 P1 al1 e1 rs1 r1 q => ?_⟩
  split at q
  · cases r1 with
    | cons q1 t => cases t with
      | cons q2 t => cases t; exact ⟨_, _, rfl, L.nx _ _ _ _ _ _ e1 ((rs1.put i q1).put j q2) q⟩
  · exact q.elim
def wAug (i : Nat) (o : WO2) (we : WE) : WS := fun k env M => match env[i]? with
  | some (some x) => we env M fun y M1 => o x y M1 fun z M2 => k.nx (env.set i (some z)) M2
  | _ => False
theorem d_aug {i : Nat} {x : Str} {op : Operator} {o : WO2} {r : R2} {pos' : Pos} (hN : X.N.Nodup) (ho : OpR X (inplaceOp op) r) (h : OpD X.K B r o) (he : DE B X e we) (hi : X.N[i]? = some x := by rfl) (hx : Loc X.env.scope x := by first | exact .inl rfl | exact .inr rfl)
    (hf : X.fn x = true ∨ X.env.scope.names.lookup x = some .local := by first | exact .inl rfl | exact .inr rfl | assumption) : DS B X (.AugAssign (.Name x pos') op e pos) (wAug i o we) := by
  refine (ps_aug (ti := r) hN hi hx he (fun pins s σ H x y v u Q I r1 r2 q => ho pins s σ H x y v u Q I r1 r2 q) hf).imp fun D σ H => ?_
  rintro ⟨P, al, M, env, k, rs, hw, L⟩
  unfold wAug at hw
  split at hw
  · rename_i d hd
    obtain ⟨v, h1, h2⟩ := rs.slot _ _ hd
    refine ⟨v, h1, P, al, M, env, _, rs, hw, fun d1 M1 v1 H1 P1 al1 e1 rs1 r1 q => ?_⟩
    refine h _ _ _ _ _ _ _ _ _ _ _ _ rs1 (h2.mono e1.pp e1.pre) r1 q fun d2 M2 v2 H2 P2 al2 e2 rs2 r2 q2 => ?_
    exact L.nx _ _ _ _ _ _ (e1.trans e2) (rs2.put i r2) q2
  · exact hw.elim
end

/-! ### what is walked -/
section
variable {X : Cx} {B : Bs} {K : PySem.W.Frag} {e tg : Expr} {es : List Expr} {we : WE} {was : WA} {pos : Pos}
def Walk (K : PySem.W.Frag) (J : It) (ds : List D) (P : Hp) (al : List Addr) : Prop :=
  ∀ (B : Bs) (P2 : Hp) (al2 : List Addr) (M2 : Mt) (H2 : Hp), Same P P2 → al <+: al2 → RS0 K B P2 al2 M2 H2 →
    (∀ (i : Nat) (d : D), ds[i]? = some d → J.go i H2 ∧ ∀ x H3, J.yld i H2 x H3 → ∃ P3, Ext P2 al2 H2 P3 al2 H3 ∧ RS0 K B P3 al2 M2 H3 ∧ Rep K P3 al2 d x) ∧ J.stop ds.length H2
abbrev WI := Ev → Mt → (List D → Mt → Prop) → Prop
def tDI (K : PySem.W.Frag) (B : Bs) (w : WI) : TI := fun σ H R => ∃ P al M env RR, RS K B P al M env σ H ∧ w env M RR ∧
  ∀ ds M' H' P' al' J, Ext P al H P' al' H' → RS K B P' al' M' env σ H' → Walk K J ds P' al' → RR ds M' → R J H'
abbrev DI (B : Bs) (X : Cx) (tg e : Expr) (w : WI) : Prop := PI X tg e (tDI X.K B w)
def rIt (K : PySem.W.Frag) (x : V) (H : Hp) (R : It → Hp → Prop) : Prop := (∃ a, x = .ref a ∧ (∃ xs, SqL K H a xs) ∧ R (Itl K a) H) ∨ (∃ a, x = .ref a ∧ (∃ xs, SqT K H a xs) ∧ R (Itt K a) H) ∨ ∃ z, x = .str z ∧ R (Its z) H
theorem pi_any {tl : TE} (hl : PE X e tl) : PI X tg e (fun σ H R => tl σ H fun x H1 => rIt X.K x H1 R) := by
  refine ⟨fun pins s σ H R I h => ?_⟩
  refine thn (hl.run pins s σ H _ I h) fun v s1 ⟨x, H1, I1, r1, q1⟩ => ?_
  rcases q1 with ⟨a, e, ⟨xs, hq⟩, q⟩ | ⟨a, e, ⟨xs, hq⟩, q⟩ | ⟨z, e, q⟩
  · subst e
    cases r1
    obtain ⟨its, rv, p, hz⟩ := I1.list hq
    refine wpAny_pyIter_list p.isList ?_
    exact pi_one (tk := s1.toks) I1 _ (turn_list a _) ⟨_, Heap.get?_push_size _ rfl, rfl, rfl⟩ q
  · subst e
    cases r1
    obtain ⟨its, rv, p, hz⟩ := I1.tuple hq
    refine wpAny_pyIter_tuple (show s1.heap.IsTuple a its.toArray from p) ?_
    exact pi_one (tk := s1.toks) I1 _ (turn_tuple a _) ⟨_, Heap.get?_push_size _ rfl, rfl, rfl⟩ q
  · subst e
    obtain ⟨t, rfl⟩ := r1
    cases ha : z.cps.all (· < 128)
    · exact wpAny_pyIter_wide ha (pi_one (tk := s1.toks) I1 _ (turn_str _ z t "str_iterator" (.inr rfl)) ⟨_, Heap.get?_push_size _ rfl, rfl, rfl⟩ q)
    · exact wpAny_pyIter_ascii ha (pi_one (tk := s1.toks) I1 _ (turn_str _ z t "str_ascii_iterator" (.inl rfl)) ⟨_, Heap.get?_push_size _ rfl, rfl, rfl⟩ q)
theorem sqL_inj {P : Hp} {M : Mt} {al : List Addr} {H : Hp} {a : Addr} {xs ys : List V} (h : SqL K H a xs) (h' : SqL K H a ys) (hk : ∀ b o, K.lookup b = some o → H b = none) : xs = ys := by
  rcases h with h | ⟨o, its, n, h1, h2, h3, h4, h5, h6⟩
  · rcases h' with h' | ⟨o', its', n', g1, _⟩
    · rcases h with h | ⟨o, h⟩ <;> rcases h' with h' | ⟨o', h'⟩ <;> rw [h] at h' <;> cases h' <;> rfl
    · rcases h with h | ⟨o, h⟩ <;> rw [hk _ _ g1] at h <;> cases h
  · rcases h' with h' | ⟨o', its', n', g1, g2, g3, g4, g5, g6⟩
    · rcases h' with h' | ⟨o', h'⟩ <;> rw [hk _ _ h1] at h' <;> cases h'
    · rw [h1] at g1; cases g1
      rw [h4] at g4; cases g4
      exact h6.inj g6
/-- the signs of a text -/
def chars (s : Str) : List D := s.cps.toList.map fun c => .str ⟨#[c]⟩
theorem walk_str (s : Str) (P : Hp) (al : List Addr) : Walk K (Its s) (chars s) P al := by
  intro B P2 al2 M2 H2 _ _ r0
  have hl : (chars s).length = s.cps.size := by simp [chars]
  refine ⟨fun i d hd => ?_, by show s.cps.size ≤ (chars s).length; omega⟩
  have hi : i < (chars s).length := (List.getElem?_eq_some_iff.mp hd).1
  refine ⟨by show i < s.cps.size; omega, fun x H3 ⟨e, c, hc, ex⟩ => ⟨P2, ?_⟩⟩
  subst e; subst ex
  have : d = .str ⟨#[c]⟩ := by
    unfold chars at hd
    rw [List.getElem?_map, Array.getElem?_toList, hc] at hd
    exact (Option.some.inj hd).symm
  subst this
  exact ⟨Ext.refl, r0, .str _⟩
theorem walk_list {a : Addr} {xs : List V} {ds : List D} {P : Hp} {al : List Addr} (h : P a = some (.lst xs)) (r : Reps K P al ds xs) : Walk K (Itl K a) ds P al := by
  intro B P2 al2 M2 H2 s p r0
  have h2 : H2 a = some (.lst xs) := r0.same _ _ (s _ _ h)
  have r2 := r.mono s p
  refine ⟨fun i d hd => ?_, ⟨xs, SqL.of h2, by rw [r.length]; exact Nat.le_refl _⟩⟩
  obtain ⟨v, hv, rv⟩ := r2.get hd
  refine ⟨⟨xs, v, SqL.of h2, hv⟩, fun x H3 ⟨e, f⟩ => ⟨P2, ?_⟩⟩
  subst e
  have := f _ (SqL.of h2)
  rw [hv] at this; cases this
  exact ⟨Ext.refl, r0, rv⟩
theorem walk_rol {a : Addr} {xs : List V} {ds : List D} {P : Hp} {al : List Addr} (h : SqL K P a xs) (r : Reps K P al ds xs) : Walk K (Itl K a) ds P al := by
  intro B P2 al2 M2 H2 s p r0
  have h2 : SqL K H2 a xs := r0.same.seq (s.seq h)
  have r2 := r.mono s p
  refine ⟨fun i d hd => ?_, ⟨xs, h2, by rw [r.length]; exact Nat.le_refl _⟩⟩
  obtain ⟨v, hv, rv⟩ := r2.get hd
  refine ⟨⟨xs, v, h2, hv⟩, fun x H3 ⟨e, f⟩ => ⟨P2, ?_⟩⟩
  subst e
  have := f _ h2
  rw [hv] at this; cases this
  exact ⟨Ext.refl, r0, rv⟩
theorem walk_tup {a : Addr} {xs : List V} {ds : List D} {P : Hp} {al : List Addr} (h : SqT K P a xs) (r : Reps K P al ds xs) : Walk K (Itt K a) ds P al := by
  intro B P2 al2 M2 H2 s p r0
  have h2 : SqT K H2 a xs := same_seqT r0.same (same_seqT s h)
  have r2 := r.mono s p
  refine ⟨fun i d hd => ?_, ⟨xs, h2, by rw [r.length]; exact Nat.le_refl _⟩⟩
  obtain ⟨v, hv, rv⟩ := r2.get hd
  refine ⟨⟨xs, v, h2, hv⟩, fun x H3 ⟨e, f⟩ => ⟨P2, ?_⟩⟩
  subst e
  have := f _ h2
  rw [hv] at this; cases this
  exact ⟨Ext.refl, r0, rv⟩
def wIt (we : WE) : WI := fun env M RR => we env M fun d M1 => match d with
  | .str s => RR (chars s) M1
  | .lst l => RR l M1
  | .rol l => RR l M1
  | .tup l => RR l M1
  | _ => False
theorem di_any (h : DE B X e we) : DI B X tg e (wIt we) := by
  refine (pi_any h).imp fun σ H R => ?_
  rintro ⟨P, al, M, env, RR, rs, hw, L⟩
  refine ⟨P, al, M, env, _, rs, hw, fun d M1 v H1 P1 al1 e1 rs1 r1 q => ?_⟩
  split at q
  · cases r1; exact .inr (.inr ⟨_, rfl, L _ _ _ _ _ _ e1 rs1 (walk_str _ _ _) q⟩)
  · cases r1 with
    | lst h1 h2 => exact .inl ⟨_, rfl, ⟨_, SqL.of (rs1.same _ _ h1)⟩, L _ _ _ _ _ _ e1 rs1 (walk_list h1 h2) q⟩
  · cases r1 with
    | rol h1 h2 => exact .inl ⟨_, rfl, ⟨_, rs1.same.seq h1⟩, L _ _ _ _ _ _ e1 rs1 (walk_rol h1 h2) q⟩
  · cases r1 with
    | tup h1 h2 => exact .inr (.inl ⟨_, rfl, ⟨_, same_seqT rs1.same h1⟩, L _ _ _ _ _ _ e1 rs1 (walk_tup h1 h2) q⟩)
  · exact q.elim
@[irreducible] def rangeD (lo : Int) (n : Nat) : List D := (List.range n).map fun (k : Nat) => .int (lo + k)
theorem walk_range (lo : Int) (n : Nat) (P : Hp) (al : List Addr) : Walk K (Itr lo n) (rangeD lo n) P al := by
  intro B P2 al2 M2 H2 _ _ r0
  have hl : (rangeD lo n).length = n := by simp [rangeD]
  refine ⟨fun i d hd => ?_, by show n ≤ (rangeD lo n).length; omega⟩
  have hi : i < (rangeD lo n).length := (List.getElem?_eq_some_iff.mp hd).1
  refine ⟨by show i < n; omega, fun x H3 ⟨e, ex⟩ => ⟨P2, ?_⟩⟩
  subst e; subst ex
  have : d = .int (lo + i) := by
    unfold rangeD at hd
    rw [List.getElem?_map, List.getElem?_range (by omega)] at hd
    exact (Option.some.inj hd).symm
  subst this
  exact ⟨Ext.refl, r0, .int _⟩
def wRng1 (was : WA) : WI := fun env M RR => was env M fun ds M1 => match ds with
  | [.int j] => Need (-(2 ^ 62) ≤ j ∧ j < 2 ^ 62) ∧ RR (rangeD 0 j.toNat) M1
  | _ => False
def wRng2 (was : WA) : WI := fun env M RR => was env M fun ds M1 => match ds with
  | [.int i, .int j] => Need (-(2 ^ 62) ≤ i ∧ i < 2 ^ 62 ∧ -(2 ^ 62) ≤ j ∧ j < 2 ^ 62) ∧ RR (rangeD i (j - i).toNat) M1
  | _ => False
theorem di_range1 {p : Pos} (hg : Gl X "range") (hm : X.mg "range" = none) (ha : DA B X [e] was) (hs : starEach [e] X.env = [(false, eval e X.env)] := by rfl) : DI B X tg (.Call (.Name "range" p) [e] [] pos) (wRng1 was) := by
  refine (pi_range1 hg hm ha hs).imp fun σ H R => ?_
  rintro ⟨P, al, M, env, RR, rs, hw, L⟩
  refine ⟨P, al, M, env, _, rs, hw, fun ds M1 vs H1 P1 al1 e1 rs1 r1 q => ?_⟩
  split at q
  · rename_i j
    cases r1 with
    | cons q1 t =>
      cases t; cases q1
      exact ⟨j, rfl, q.1.out.1, q.1.out.2, L _ _ _ _ _ _ e1 rs1 (walk_range 0 _ _ _) q.2⟩
  · exact q.elim
theorem di_range2 {a b : Expr} {p : Pos} (hg : Gl X "range") (hm : X.mg "range" = none) (ha : DA B X [a, b] was) (hs : starEach [a, b] X.env = [(false, eval a X.env), (false, eval b X.env)] := by rfl) (hs2 : starEach [b] X.env = [(false, eval b X.env)] := by rfl) : DI B X tg (.Call (.Name "range" p) [a, b] [] pos) (wRng2 was) := by
  refine (pi_range2 hg hm ha hs hs2).imp fun σ H R => ?_
  rintro ⟨P, al, M, env, RR, rs, hw, L⟩
  refine ⟨P, al, M, env, _, rs, hw, fun ds M1 vs H1 P1 al1 e1 rs1 r1 q => ?_⟩
  split at q
  · rename_i i j
    cases r1 with
    | cons q1 t =>
      cases t with
      | cons q2 t =>
        cases t; cases q1; cases q2
        exact ⟨i, j, rfl, q.1.out, L _ _ _ _ _ _ e1 rs1 (walk_range i _ _ _) q.2⟩
  · exact q.elim

/-! ### for -/
/-- the turns over the items; N: what a turn is to reach -/
def forL (g : WG) (b : WS) (k : DEnds) : List D → Ev → Mt → Prop
  | [], env, M => k.nx env M
  | d :: r, env, M => ∃ N : Ev → Mt → Prop, (∀ env' M', N env' M' → forL g b k r env' M') ∧ g d env M fun env1 M1 => b { nx := N, ct := N, bk := k.nx, rt := k.rt } env1 M1
def wFor (wi : WI) (g : WG) (b : WS) : WS := fun k env M => wi env M fun ds M1 => forL g b k ds env M1
theorem d_for {body : List Stmt} {wi : WI} {g : WG} {wb : WS} (hp : PassesOwn (model X.prog X.w) X.A X.env X.xe) (hc : X.calm = true) (hi : DI B X tg e wi) (hg : DG B X tg g) (hb : DSs B X body wb) (hs : ∀ x, foldedSetIterable e X.env x = pure x := by intro _; rfl) :
    DS B X (.For tg e body [] pos) (wFor wi g wb) := by
  refine (ps_for hp hc hi hg hb hs).imp fun D σ H => ?_
  rintro ⟨P, al, M, env, k, rs, hw, L⟩
  refine ⟨P, al, M, env, _, rs, hw, fun ds M1 H1 P1 al1 J e1 rs1 wk q => ?_⟩
  refine ⟨fun i m σ2 H2 => m = ds.length - i ∧ i ≤ ds.length ∧ ∃ P2 al2 M2 env2, Ext P1 al1 H1 P2 al2 H2 ∧ RS X.K B P2 al2 M2 env2 σ2 H2 ∧ forL g wb k (ds.drop i) env2 M2, ⟨ds.length, by simp, Nat.zero_le _, P1, al1, M1, env, Ext.refl, rs1, q⟩, ?_⟩
  rintro i m σ2 H2 ⟨rfl, hi, P2, al2, M2, env2, e2, rs2, q2⟩
  obtain ⟨wk1, wk2⟩ := wk B P2 al2 M2 H2 e2.pp e2.pre rs2.toRS0
  by_cases hlt : i < ds.length
  · right
    have hd : ds[i]? = some ds[i] := List.getElem?_eq_getElem hlt
    obtain ⟨go, yl⟩ := wk1 i _ hd
    rw [List.drop_eq_getElem_cons hlt] at q2
    obtain ⟨N, hN, q2⟩ := q2
    refine ⟨go, fun σ' H' => ∃ P' al' M' env', Ext P1 al1 H1 P' al' H' ∧ RS X.K B P' al' M' env' σ' H' ∧ N env' M', fun σ' H' ⟨P', al', M', env', e', rs', n'⟩ => ⟨ds.length - (i + 1), by omega, rfl, hlt, P', al', M', env', e', rs', hN _ _ n'⟩, fun x H3 y => ?_⟩
    obtain ⟨P3, e3, r3, rx⟩ := yl x H3 y
    refine ⟨P3, al2, M2, env2, _, _, rs2.step e3 r3, rx, q2, fun env4 M4 σ4 H4 P4 al4 e4 rs4 q4 => ?_⟩
    have e14 := e2.trans (e3.trans e4)
    refine ⟨P4, al4, M4, env4, _, rs4, q4, ⟨fun env5 M5 σ5 H5 P5 al5 e5 rs5 n5 => ⟨P5, al5, M5, env5, e14.trans e5, rs5, n5⟩, fun d M5 v H5 P5 al5 e5 rs5 r5 q5 => L.rt _ _ _ _ _ _ (e1.trans (e14.trans e5)) rs5 r5 q5, fun env5 M5 σ5 H5 P5 al5 e5 rs5 q5 => L.nx _ _ _ _ _ _ (e1.trans (e14.trans e5)) rs5 q5, fun env5 M5 σ5 H5 P5 al5 e5 rs5 n5 => ⟨P5, al5, M5, env5, e14.trans e5, rs5, n5⟩⟩⟩
  · left
    have ei : i = ds.length := by omega
    subst ei
    rw [List.drop_length] at q2
    exact ⟨wk2, L.nx _ _ _ _ _ _ (e1.trans e2) rs2 q2⟩

/-! ### list comprehensions -/
def wipeE (env : Ev) : List Nat → Ev
  | [] => env
  | v :: vs => (wipeE env vs).set v none
theorem RS.wipe {P : Hp} {al : List Addr} {M : Mt} {env : Ev} {σ : L2.St} {H : Hp} (rs : RS K B P al M env σ H) : ∀ vs : List Nat, RS K B P al M (wipeE env vs) (L2.wipe σ vs) H
  | [] => rs
  | v :: vs => by
    have ih := rs.wipe vs
    refine ⟨ih.toRS0, by simp [wipeE, L2.wipe, ih.slen], fun j d h => ?_⟩
    unfold wipeE at h
    by_cases hj : j = v
    · subst hj
      have hi : j < (wipeE env vs).length := by
        have := (List.getElem?_eq_some_iff.mp h).1
        simpa using this
      rw [List.getElem?_set_self hi] at h; cases h
    · rw [List.getElem?_set_ne (Ne.symm hj)] at h
      unfold L2.wipe
      rw [List.getElem?_set_ne (Ne.symm hj)]
      exact ih.slot j d h
abbrev WTs := Ev → Mt → (Bool → Mt → Prop) → Prop
abbrev DTs (B : Bs) (X : Cx) (ifs : List Expr) (w : WTs) : Prop := PTs X ifs (tDT X.K B w)
def wYes : WTs := fun _ M R => R true M
theorem _root_.L2.PTs.imp {X : Cx} {e : List Expr} {t u : TT} (h : PTs X e t) (i : ∀ σ H Q, u σ H Q → t σ H Q) : PTs X e u := ⟨fun pins s σ H Q I q => h.run pins s σ H Q I (i σ H Q q)⟩
theorem dts_nil : DTs B X [] wYes := by
  refine pts_nil.imp fun σ H Q => ?_
  rintro ⟨P, al, M, env, R, rs, hw, L⟩
  exact L _ _ _ _ _ Ext.refl rs hw
theorem dts_one {c : Expr} {t : WT} (h : DT B X c t) : DTs B X [c] t := pts_one h
theorem wipe_get (σ : L2.St) : ∀ (vs : List Nat) (j : Nat), (L2.wipe σ vs)[j]? = if j ∈ vs then (if j < σ.length then some none else none) else σ[j]?
  | [], j => by simp [L2.wipe]
  | v :: vs, j => by
    unfold L2.wipe
    by_cases hj : j = v
    · subst hj
      by_cases hl : j < σ.length
      · rw [List.getElem?_set_self (by rw [wipe_length]; exact hl)]; simp [hl]
      · rw [List.getElem?_eq_none (by rw [List.length_set, wipe_length]; omega)]; simp [hl]
    · rw [List.getElem?_set_ne (Ne.symm hj), wipe_get σ vs j]
      simp [hj]
theorem wipe_put {σ : L2.St} {vs : List Nat} {i : Nat} {x : Option V} (hi : i ∈ vs) : L2.wipe (σ.set i x) vs = L2.wipe σ vs := by
  apply List.ext_getElem?
  intro j
  rw [wipe_get, wipe_get, List.length_set]
  by_cases hj : j ∈ vs
  · simp [hj]
  · have : i ≠ j := fun z => hj (z ▸ hi)
    simp [hj, List.getElem?_set_ne this]
theorem wipe_wipe {σ : L2.St} {vs : List Nat} : L2.wipe (L2.wipe σ vs) vs = L2.wipe σ vs := by
  apply List.ext_getElem?
  intro j
  rw [wipe_get, wipe_length]
  by_cases hj : j ∈ vs
  · simp only [hj, if_true]; rw [wipe_get]; simp [hj]
  · simp [hj]
/-- a comprehension's names: one, or two, three of a tuple -/
def bnd (is : List Nat) (d : D) (env : Ev) (k : Ev → Prop) : Prop := match is with
  | [i] => k (env.set i (some d))
  | [i, j] => match d with
    | .tup [a, b] => k ((env.set i (some a)).set j (some b))
    | _ => False
  | _ => False
def lcL (is : List Nat) (t : WTs) (we : WE) (vs : List Nat) (env : Ev) : List D → List D → Mt → (List D → Mt → Prop) → Prop
  | [], acc, M, R => R acc M
  | d :: r, acc, M, R => bnd is d (wipeE env vs) fun env1 => t env1 M fun b M2 =>
      ifB b (we env1 M2 fun y M3 => Need (acc.length < sizeLine) ∧ lcL is t we vs env r (acc ++ [y]) M3 R) (lcL is t we vs env r acc M2 R)
def wLc (wi : WI) (is : List Nat) (t : WTs) (we : WE) (vs : List Nat) : WE := fun env M R => wi env M fun ds M1 => lcL is t we vs env ds [] M1 fun acc M2 => R (.lst acc) M2
/-- the same for a list that will change -/
def wLcM (wi : WI) (is : List Nat) (t : WTs) (we : WE) (vs : List Nat) : WE := fun env M R => wi env M fun ds M1 => lcL is t we vs env ds [] M1 fun acc M2 => R (.cel M2.length) (M2 ++ [.lst acc])
/-- how the target takes an item -/
def Binds1 (K : PySem.W.Frag) (g : TG) (is vs : List Nat) : Prop := ∀ (B : Bs) (P : Hp) (al : List Addr) (M : Mt) (env : Ev) (σ : L2.St) (H : Hp) (d : D) (v : V) (k : Ev → Prop) (Q : L2.St → Hp → Prop), RS K B P al M env σ H → Rep K P al d v → bnd is d env k →
  (∀ env' σ', RS K B P al M env' σ' H → L2.wipe σ' vs = L2.wipe σ vs → k env' → Q σ' H) → g v σ H Q
theorem binds_one {i : Nat} {vs : List Nat} (hi : i ∈ vs) : Binds1 K (gName i) [i] vs := fun B P al M env σ H d v k Q rs r h q => q _ _ (rs.put i r) (wipe_put hi) h
theorem binds_two {i j : Nat} {vs : List Nat} (hi : i ∈ vs) (hj : j ∈ vs) : Binds1 K (gTup K 2 (gCons (gName i) (gCons (gName j) gNil))) [i, j] vs := by
  intro B P al M env σ H d v k Q rs r h q
  cases r with
  | tup h1 h2 =>
    cases h2 with
    | nil => exact (show False from h).elim
    | cons q1 t =>
      cases t with
      | nil => exact (show False from h).elim
      | cons q2 t =>
        cases t with
        | nil => exact ⟨_, _, rfl, same_seqT rs.same h1, rfl, _, _, rfl, _, _, rfl, rfl, q _ _ ((rs.put i q1).put j q2) (by rw [wipe_put hj, wipe_put hi]) h⟩
        | cons _ _ => exact (show False from h).elim
  | _ => exact (show False from h).elim
/-- the core: what the block's rule asks -/
theorem lc_imp {wi : WI} {g : TG} {is vs : List Nat} {t : WTs} {we : WE} (bn : Binds1 K g is vs) {P al M env σ H} {R : D → Mt → Prop} {Q : VK} {fin : List D → Mt → (D → Mt → Prop) → Prop}
    (hfin : ∀ (P : Hp) (al : List Addr) (M : Mt) (σ : L2.St) (H : Hp) (p : Addr) (acc : List D) (vs : List V) (R : D → Mt → Prop) (Q : VK) (H0 P0 : Hp) (al0 : List Addr), RS K B P al M env σ H → Ext P0 al0 H0 P al H → H0 p = none → P p = none → p ∉ al → B.2.2 p = none → H p = some (.lst vs) → Reps K P al acc vs → fin acc M R → (∀ d M' P' al', Ext P0 al0 H0 P' al' H → RS K B P' al' M' env σ H → Rep K P' al' d (.ref p) → R d M' → Q (.ref p) H) → Q (.ref p) H)
    (rs : RS K B P al M env σ H) (hw : wi env M fun ds M1 => lcL is t we vs env ds [] M1 fun acc M2 => fin acc M2 R) (L : Lift K B P al env σ H R Q) : tLc (tDI K B wi) g (tDT K B t) (tD K B we) vs σ H Q := by
  refine ⟨P, al, M, env, _, rs, hw, fun ds M1 H1 P1 al1 J e1 rs1 wk q => fun p hp => ?_⟩
  obtain ⟨hb, na⟩ := rs1.toRS0.fresh hp
  have np := rs1.toRS0.free hp
  refine ⟨fun i m H2 => m = ds.length - i ∧ i ≤ ds.length ∧ ∃ P2 al2 M2 acc av, Ext P1 al1 H1 P2 al2 H2 ∧ RS K B P2 al2 M2 env σ H2 ∧ P2 p = none ∧ p ∉ al2 ∧ H2 p = some (.lst av) ∧ Reps K P2 al2 acc av ∧ lcL is t we vs env (ds.drop i) acc M2 (fun acc M2 => fin acc M2 R),
    ⟨ds.length, by simp, Nat.zero_le _, P1, al1, M1, [], [], Ext.refl.priv hp _, ⟨rs1.toRS0.priv np na hb _, rs1.slen, rs1.slot⟩, np, na, upd_same, .nil, q⟩, ?_⟩
  rintro i m H2 ⟨rfl, hi, P2, al2, M2, acc, av, e2, rs2, np2, na2, hpv, racc, q2⟩
  obtain ⟨wk1, wk2⟩ := wk B P2 al2 M2 H2 e2.pp e2.pre rs2.toRS0
  by_cases hlt : i < ds.length
  · right
    have hd : ds[i]? = some ds[i] := List.getElem?_eq_getElem hlt
    obtain ⟨go, yl⟩ := wk1 i _ hd
    rw [List.drop_eq_getElem_cons hlt] at q2
    refine ⟨go, fun H' => ∃ P' al' M' acc' av', Ext P1 al1 H1 P' al' H' ∧ RS K B P' al' M' env σ H' ∧ P' p = none ∧ p ∉ al' ∧ H' p = some (.lst av') ∧ Reps K P' al' acc' av' ∧ lcL is t we vs env (ds.drop (i + 1)) acc' M' (fun acc M2 => fin acc M2 R), fun H' ⟨P', al', M', acc', av', x⟩ => ⟨ds.length - (i + 1), by omega, rfl, hlt, P', al', M', acc', av', x⟩, fun x H3 y => ?_⟩
    obtain ⟨P3, e3, r3, rx⟩ := yl x H3 y
    have rs3 := (rs2.step e3 r3)
    -- what our own list is behind a step
    have keep : ∀ {Pa ala Ha Pb alb Hb w'}, Ext Pa ala Ha Pb alb Hb → Ha p = some (.lst w') → p ∉ ala → Pa p = none → Hb p = some (.lst w') ∧ p ∉ alb ∧ Pb p = none := fun {Pa ala Ha Pb alb Hb w'} e h n z =>
      ⟨e.fr _ _ h n, (fun m => by have := e.new _ m n; rw [h] at this; cases this), e.pn _ _ h ⟨fun _ u => (by cases u), fun _ u => (by cases u)⟩ z n⟩
    obtain ⟨hp3, na3, np3⟩ := keep e3 hpv na2 np2
    refine bn B P3 al2 M2 _ _ H3 _ x _ _ (rs3.wipe vs) rx q2 fun env4 σ4 rs4 hwp q4 => ⟨by rw [hwp, wipe_wipe], P3, al2, M2, env4, _, rs4, q4, fun b M5 H5 P5 al5 e5 rs5 q5 => ?_⟩
    obtain ⟨hp5, na5, np5⟩ := keep e5 hp3 na3 np3
    have e15 := e2.trans (e3.trans e5)
    have back : ∀ {P' al' M' H'}, Ext P3 al2 H3 P' al' H' → RS0 K B P' al' M' H' → RS K B P' al' M' env σ H' := fun {P' al' M' H'} e r => rs3.step e r
    cases b with
    | true =>
      rw [if_pos rfl]
      refine ⟨P5, al5, M5, env4, _, rs5, q5.1 rfl, fun y M6 v H6 P6 al6 e6 rs6 r6 q6 => ?_⟩
      obtain ⟨hp6, na6, np6⟩ := keep e6 hp5 na5 np5
      have racc6 := racc.mono (e3.trans (e5.trans e6)).pp (e3.trans (e5.trans e6)).pre
      refine ⟨av, hp6, by rw [← racc.length]; exact q6.1.out, P6, al6, M6, acc ++ [y], av ++ [v], (e15.trans e6).priv hp _, ?_, np6, na6, upd_same, racc6.append (.cons r6 .nil), q6.2⟩
      have r7 := back (e5.trans e6) rs6.toRS0
      exact ⟨r7.toRS0.priv np6 na6 hb _, r7.slen, r7.slot⟩
    | false =>
      rw [if_neg Bool.false_ne_true]
      exact ⟨P5, al5, M5, acc, av, e15, back e5 rs5.toRS0, np5, na5, hp5, racc.mono (e3.trans e5).pp (e3.trans e5).pre, q5.2 rfl⟩
  · left
    have ei : i = ds.length := by omega
    subst ei
    rw [List.drop_length] at q2
    refine ⟨wk2, ?_⟩
    exact hfin P2 al2 M2 σ H2 p acc av R Q H1 P1 al1 rs2 e2 hp np2 na2 hb hpv racc q2 fun d M' P' al' e rs' r z => L _ _ _ _ _ _ (e1.trans e) rs' r z
theorem d_lc {elt : Expr} {ifs : List Expr} {scope : Scope} {own : List (Str × Nat)} {g : TG} {is : List Nat} {wi : WI} {t : WTs} (hc : X.calm = true) (hN : X.N.Nodup) (hi : DI B X tg e wi) (ok : BlkOk X.N X.env.scope scope own)
    (hg : ∀ (s : Shared) (H : Hp) (C : Addr) (cl : List (Str × Addr)) (fp : List Addr), PG (X.blk s H scope (compEnvC scope cl C X.env) fp) tg g) (bn : Binds1 X.K g is (own.map (·.2)))
    (ht : ∀ (s : Shared) (H : Hp) (C : Addr) (cl : List (Str × Addr)) (fp : List Addr), DTs B (X.blk s H scope (compEnvC scope cl C X.env) fp) ifs t)
    (he : ∀ (s : Shared) (H : Hp) (C : Addr) (cl : List (Str × Addr)) (fp : List Addr), DE B (X.blk s H scope (compEnvC scope cl C X.env) fp) elt we) (hs : ∀ x, foldedSetIterable e X.env x = pure x := by intro _; rfl) :
    DE B X (.ListComp elt [⟨tg, e, ifs, 0⟩] scope pos) (wLc wi is t we (own.map (·.2))) := by
  refine (pe_lc (tt := tDT X.K B t) (te := tD X.K B we) hc hN hi ok hg ht he hs).imp fun σ H Q => ?_
  rintro ⟨P, al, M, env, R, rs, hw, L⟩
  refine lc_imp (fin := fun acc M R => R (.lst acc) M) bn (fun P al M σ H p acc vs R Q H0 P0 al0 rs e hp np na hb hv ra hr hq => ?_) rs hw L
  have sm : Same P (upd P p (.lst vs)) := fun b x h => by rw [upd_ne (ne_of_none h np)]; exact h
  refine hq _ _ _ _ (e.pub hp np (.lst vs)) ⟨rs.toRS0.pub np na hb hv, rs.slen, fun j d h => ?_⟩ (.lst upd_same (ra.mono sm (List.prefix_refl _))) hr
  obtain ⟨v, h1, h2⟩ := rs.slot j d h
  exact ⟨v, h1, h2.mono sm (List.prefix_refl _)⟩
end
end L3

namespace L3
open PySem PySem.Spec PyProof.Rows L2
/-! ### calls of the text's defs -/
abbrev RXt := Str → List (Str × D) → Mt → Prop
abbrev RX0 : RXt := fun _ _ _ => False
abbrev DSp := List D → Mt → (D → Mt → Prop) → RXt → Prop
/-- an exception's own dict -/
def XdOk (K : PySem.W.Frag) (P : Hp) (al : List Addr) (H : Hp) (fs : List (Str × D)) (dd : Option Addr) : Prop :=
  (dd = none ∧ fs = []) ∨ ∃ d gs, dd = some d ∧ d ∉ al ∧ H d = some (.xd gs) ∧ RepFs K P al fs gs
def toSp (K : PySem.W.Frag) (sp : DSp) : Sp := fun vs H Q E => ∃ P al M ds R, ∃ RX : RXt, RS0 K (P, al, H) P al M H ∧ Reps K P al ds vs ∧ sp ds M R RX ∧
  (∀ d M' v H' P' al', Ext P al H P' al' H' → RS0 K (P, al, H) P' al' M' H' → Rep K P' al' d v → R d M' → Q v H') ∧
  (∀ C n fs M' H' P' al' dd, Ext P al H P' al' H' → RS0 K (P, al, H) P' al' M' H' → ClsAt K n C → XdOk K P' al' H' fs dd → RX n fs M' → E (.ref C) dd H')
section
variable {K : PySem.W.Frag} {B B' : Bs} {P P' : Hp} {al al' : List Addr} {M M' : Mt} {env : Ev} {σ : L2.St} {H H' : Hp}
theorem RS0.rebase (r : RS0 K B P al M H) (e : Ext B'.1 B'.2.1 B'.2.2 P al H) : RS0 K B' P al M H := ⟨e, r.same, r.len, r.cell, r.inj, r.trk⟩
theorem RS0.here (r : RS0 K B P al M H) : RS0 K (P, al, H) P al M H := r.rebase Ext.refl
end
section
variable {X : Cx} {B : Bs} {CX : CXT} {k : Nat} {f : Addr} {fd : FuncData} {ps : List Str} {sp : DSp} {dvs : List V} {dds : List D} {ds : List Value} {x : Str} {p pos : Pos} {e : Expr} {es : List Expr} {was : WA}
def wCall (sp : DSp) (dds : List D) (RX : RXt) (was : WA) : WE := fun env M R => was env M fun ds M1 => sp (ds ++ dds) M1 R RX
theorem call_imp {K : PySem.W.Frag} (hdd : ∀ P al, Reps K P al dds dvs) (σ : L2.St) (H : Hp) (Q : VK) : tD K B (wCall sp dds RX0 was) σ H Q → tCall (toSp K sp) dvs E0 (tDA K B was) σ H Q := by
  rintro ⟨P, al, M, env, R, rs, hw, L⟩
  refine ⟨P, al, M, env, _, rs, hw, fun ds M1 vs H1 P1 al1 e1 rs1 r1 q => ?_⟩
  exact ⟨P1, al1, M1, _, R, RX0, rs1.toRS0.here, r1.append (hdd _ _), q, fun d M' v H' P' al' e r0 r hq => L _ _ _ _ _ _ (e1.trans e) (rs1.step e (r0.rebase (rs1.base.trans e))) r hq, fun _ _ _ _ _ _ _ _ _ _ _ _ z => z.elim⟩
theorem d_call (F : FnOk X.prog X.w X.K X.mg X.base CX0 k f fd ps (toSp X.K sp)) (hr : Room k X.A) (hg : Gl X x) (hm : X.mg x = some (.ref f)) (hk : PySem.W.keepIn X.K (.ref f) = true) (hb : Binds X.K fd ps ds) (hd : Vals dvs ds) (hdd : ∀ P al, Reps X.K P al dds dvs) (ha : DA B X (e :: es) was)
    (hdb : (x == ("__debug__" : Str)) = false := by decide) (he : starEach (e :: es) X.env = (false, eval e X.env) :: starEach es X.env := by rfl) (hpl : (backTo pos (starEach es X.env)).any (·.1) = false := by rfl) : DE B X (.Call (.Name x p) (e :: es) [] pos) (wCall sp dds RX0 was) :=
  (pe_call F hr hg hm hk hb hd pass0 ha hdb he hpl).imp (call_imp hdd)
theorem d_call0 (F : FnOk X.prog X.w X.K X.mg X.base CX0 k f fd ps (toSp X.K sp)) (hr : Room k X.A) (hg : Gl X x) (hm : X.mg x = some (.ref f)) (hk : PySem.W.keepIn X.K (.ref f) = true) (hb : Binds X.K fd ps ds) (hd : Vals dvs ds) (hdd : ∀ P al, Reps X.K P al dds dvs)
    (hdb : (x == ("__debug__" : Str)) = false := by decide) : DE B X (.Call (.Name x p) [] [] pos) (wCall sp dds RX0 wNil) := by
  refine (pe_call0 F hr hg hm hk hb hd pass0 hdb).imp fun σ H Q h => ?_
  obtain ⟨P, al, M, env, R, rs, hw, L⟩ := call_imp (was := wNil) hdd σ H Q h
  exact L _ _ _ _ _ _ Ext.refl rs .nil hw
end
/-! ### the end of a def -/
mutual
def noCel (n : Nat) : D → Bool
  | .tup l => noCels n l
  | .ptp l => noCels n l
  | .lst l => noCels n l
  | .rol l => noCels n l
  | .dct l => noCelK n l
  | .fdc l => noCelK n l
  | .obj _ l => noCelF n l
  | .cel i => decide (i < n)
  | _ => true
def noCels (n : Nat) : List D → Bool
  | [] => true
  | d :: r => noCel n d && noCels n r
def noCelK (n : Nat) : List (Key × D) → Bool
  | [] => true
  | (_, d) :: r => noCel n d && noCelK n r
def noCelF (n : Nat) : List (Str × D) → Bool
  | [] => true
  | (_, d) :: r => noCel n d && noCelF n r
end
section
variable {K : PySem.W.Frag} {B : Bs} {P : Hp} {al al' : List Addr} {M : Mt} {H : Hp}
theorem and_l {a b : Bool} (h : (a && b) = true) : a = true := (Bool.and_eq_true_iff.mp h).1
theorem and_r {a b : Bool} (h : (a && b) = true) : b = true := (Bool.and_eq_true_iff.mp h).2
mutual
theorem Rep.cut (h : al <+: al') : ∀ {d : D} {v : V}, Rep K P al' d v → noCel al.length d = true → Rep K P al d v
  | _, _, .non, _ => .non
  | _, _, .bl b, _ => .bl b
  | _, _, .int i, _ => .int i
  | _, _, .str x, _ => .str x
  | _, _, .ty n, _ => .ty n
  | _, _, .adr a, _ => .adr a
  | _, _, .tup q r, e => .tup q (Reps.cutA h r (by simpa [noCel] using e))
  | _, _, .ptp q r, e => .ptp q (Reps.cutA h r (by simpa [noCel] using e))
  | _, _, .lst q r, e => .lst q (Reps.cutA h r (by simpa [noCel] using e))
  | _, _, .rol q r, e => .rol q (Reps.cutA h r (by simpa [noCel] using e))
  | _, _, .dct q r, e => .dct q (RepKs.cutA h r (by simpa [noCel] using e))
  | _, _, .fdc q r, e => .fdc q (RepKs.cutA h r (by simpa [noCel] using e))
  | _, _, .obj q c r, e => .obj q c (RepFs.cutA h r (by simpa [noCel] using e))
  | _, _, .cls c, _ => .cls c
  | _, _, .cel q, e => .cel (by
    have hi : _ < al.length := of_decide_eq_true (by simpa [noCel] using e)
    obtain ⟨t, rfl⟩ := h
    rw [List.getElem?_append_left hi] at q; exact q)
theorem Reps.cutA (h : al <+: al') : ∀ {ds : List D} {vs : List V}, Reps K P al' ds vs → noCels al.length ds = true → Reps K P al ds vs
  | _, _, .nil, _ => .nil
  | _, _, .cons r t, e => .cons (Rep.cut h r (and_l (by simpa only [noCels] using e))) (Reps.cutA h t (and_r (by simpa only [noCels] using e)))
theorem RepKs.cutA (h : al <+: al') : ∀ {ds : List (Key × D)} {vs : List (Key × V)}, RepKs K P al' ds vs → noCelK al.length ds = true → RepKs K P al ds vs
  | _, _, .nil, _ => .nil
  | _, _, .cons r t, e => .cons (Rep.cut h r (and_l (by simpa only [noCelK] using e))) (RepKs.cutA h t (and_r (by simpa only [noCelK] using e)))
theorem RepFs.cutA (h : al <+: al') : ∀ {ds : List (Str × D)} {vs : List (Str × V)}, RepFs K P al' ds vs → noCelF al.length ds = true → RepFs K P al ds vs
  | _, _, .nil, _ => .nil
  | _, _, .cons r t, e => .cons (Rep.cut h r (and_l (by simpa only [noCelF] using e))) (RepFs.cutA h t (and_r (by simpa only [noCelF] using e)))
end
def exOk (n : Nat) : List D → Bool
  | [.obj _ fs] => noCelF n fs
  | _ => true
/-- what an object of the table may hold, when the later places are dropped -/
def cellOk (n : Nat) : D → Bool
  | .lst l => noCels n l
  | .dct l => noCelK n l
  | .obj _ l => noCelF n l
  | .ptp l => exOk n l
  | _ => true
theorem ExCell.cut {l : List D} {a : Addr} (h : al <+: al') (c : ExCell K P al' l a) (k : exOk al.length l = true) : ExCell K P al l a := by
  unfold ExCell at c ⊢
  split at c
  · obtain ⟨C, d, oe, h1, h2, h3, h4, h5⟩ := c
    refine ⟨C, d, oe, h1, h2, h3, h4, ?_⟩
    rcases h5 with h5 | ⟨dd, gs, g1, g2, g3⟩
    · exact .inl h5
    · exact .inr ⟨dd, gs, g1, g2, g3.cutA h k⟩
  · trivial
theorem RS0.drop {P0 H0 : Hp} (r : RS0 K (P0, al, H0) P al' M H) (hc : ∀ (i : Nat) (m : D), i < al.length → M[i]? = some m → cellOk al.length m = true) : RS0 K (P0, al, H0) P al (M.take al.length) H := by
  have pre : al <+: al' := r.base.pre
  have hl : al.length ≤ M.length := by rw [← r.len]; exact pre.length_le
  refine ⟨⟨r.base.pp, List.prefix_refl _, r.base.fr, fun b m n => absurd m n, r.base.pn⟩, r.same, by simp; omega, fun i a m h1 h2 => ?_, fun i j a m n h1 h2 h3 h4 => r.inj i j a m n (pre_get pre h1) (pre_get pre h2) ?_ ?_, fun a h => r.trk a (pre.subset h)⟩
  · have hi := (List.getElem?_eq_some_iff.mp h1).1
    rw [List.getElem?_take_of_lt hi] at h2
    have c := r.cell i a m (pre_get pre h1) h2
    have k := hc i m hi h2
    cases m <;> first | trivial | skip
    · exact ExCell.cut pre c k
    · obtain ⟨q1, xs, q2, q3⟩ := c; exact ⟨q1, xs, q2, q3.cutA pre k⟩
    · obtain ⟨q1, xs, q2, q3⟩ := c; exact ⟨q1, xs, q2, q3.cutA pre k⟩
    · obtain ⟨q1, C, dx, xs, q2, hc, q3⟩ := c; exact ⟨q1, C, dx, xs, q2, hc, q3.cutA pre k⟩
  · rw [List.getElem?_take_of_lt (List.getElem?_eq_some_iff.mp h1).1] at h3; exact h3
  · rw [List.getElem?_take_of_lt (List.getElem?_eq_some_iff.mp h2).1] at h4; exact h4
end
/-- a def's end: the objects that it made and did not hand back are dropped -/
inductive retF (n : Nat) (R : D → Mt → Prop) (d : D) (M : Mt) : Prop where
  | keep : R d M → retF n R d M
  | less : noCel n d = true → (M.take n).all (cellOk n) = true → R d (M.take n) → retF n R d M
def startE (n : Nat) (ds : List D) : Ev := ds.map some ++ List.replicate (n - ds.length) none
def fnEnds (n : Nat) (R : D → Mt → Prop) : DEnds := ⟨fun _ M => retF n R .non M, retF n R, fun _ _ => False, fun _ _ => False⟩
section
variable {P : Program} {w : World} {K : PySem.W.Frag} {mg : Str → Option Value} {base : Heap}
theorem start_slots {Pp : Hp} {al : List Addr} {ds : List D} {vs : List V} {N : List Str} (r : Reps K Pp al ds vs) : (startE N.length ds).length = (L2.start N vs).length ∧ ∀ (j : Nat) (d : D), (startE N.length ds)[j]? = some (some d) → ∃ v, (L2.start N vs)[j]? = some (some v) ∧ Rep K Pp al d v := by
  have hl := r.length
  refine ⟨by simp [startE, L2.start, hl], fun j d h => ?_⟩
  unfold startE at h
  unfold L2.start
  by_cases hj : j < ds.length
  · rw [List.getElem?_append_left (by simpa using hj), List.getElem?_map] at h
    cases hd : ds[j]? with
    | none => rw [hd] at h; cases h
    | some d' =>
      rw [hd] at h; cases h
      obtain ⟨v, h1, h2⟩ := r.get hd
      exact ⟨v, by rw [List.getElem?_append_left (by simp; omega), List.getElem?_map, h1]; rfl, h2⟩
  · rw [List.getElem?_append_right (by simp; omega)] at h
    have := List.mem_of_getElem? h
    simp at this
theorem dfn {x qual : Str} {st : Stmt} {f : Addr} {fd : FuncData} {N ps : List Str} {k : Nat} {sp : DSp} (F : Fun K x qual st f fd) (S : FnScope N ps (defScope st)) (len : ∀ ds M R RX, sp ds M R RX → ds.length = ps.length)
    (body : ∀ (B : Bs) (cdv : Value) (A : Around) (outer : List Env) (s : Shared) (H : Hp) (E : XK), Room k (A.deeper (envOfC qual (defScope st) s.heap.objs.size f cdv)) →
      ∃ wb : WS, DSs B (cxOf CX0 P w K mg base N qual (defScope st) f cdv A outer s H E).nox (defBody st) wb ∧ ∀ ds M R RX, sp ds M R RX → wb (fnEnds M.length R) (startE N.length ds) M) :
    FnOk P w K mg base CX0 (k + 1) f fd ps (toSp K sp) := by
  refine F.ok S (fun vs H Q E h => ?_) (fun cdv A outer s H vs Q E hr h => ?_)
  · obtain ⟨P, al, M, ds, R, RX, _, r, hs, _⟩ := h
    rw [← r.length]; exact len _ _ _ _ hs
  · obtain ⟨Pp, al, M, ds, R, RX, r0, r, hs, L, _⟩ := h
    obtain ⟨wb, hb, hw⟩ := body (Pp, al, H) cdv A outer s H E hr
    have el := r0.len
    have fin : ∀ d M' v H' P' al', Ext Pp al H P' al' H' → RS0 K (Pp, al, H) P' al' M' H' → Rep K P' al' d v → retF M.length R d M' → Q v H' := fun d M' v H' P' al' e r' rd q => by
      cases q with
      | keep q => exact L d M' v H' P' al' e r' rd q
      | less q1 q2 q3 =>
        rw [← el] at q1 q2 q3
        refine L d _ v H' P' al ⟨e.pp, List.prefix_refl _, e.fr, fun b m n => absurd m n, e.pn⟩ (r'.drop fun i m hi hm => ?_) (rd.cut e.pre q1) q3
        exact List.all_eq_true.mp q2 m (List.mem_of_getElem? (by rw [List.getElem?_take_of_lt hi]; exact hm))
    obtain ⟨s1, s2⟩ := start_slots (N := N) r
    exact ⟨_, hb, Pp, al, M, _, _, ⟨r0, s1, s2⟩, hw ds M R RX hs, ⟨fun env' M' σ' H' P' al' e rs q => fin _ _ _ _ _ _ e rs.toRS0 .non q, fun d M' v H' P' al' e rs rd q => fin _ _ _ _ _ _ e rs rd q, fun _ _ _ _ _ _ _ _ z => z.elim, fun _ _ _ _ _ _ _ _ z => z.elim⟩⟩
end

/-! ### built-in functions -/
section
variable {X : Cx} {B : Bs} {K : PySem.W.Frag}
@[irreducible] def cLen : WCl := fun ds M R => match ds with
  | [x] => match viewD M x with
    | .str s => Need (s.length ≤ sizeLine) ∧ R (.int s.length) M
    | .dct l => R (.int l.length) M
    | .fdc l => R (.int l.length) M
    | x' => match seqD x' with
      | some l => R (.int l.length) M
      | none => False
  | _ => False
def rLenU (K : PySem.W.Frag) : List V → Hp → VK → Prop := fun xs H Q => (∃ x n, xs = [x] ∧ LenV K x H n ∧ Q (.int n) H) ∨ ∃ a kvs, xs = [V.ref a] ∧ Rd H a (.dK kvs) ∧ Q (.int kvs.length) H
theorem call_lenR : CallR X (.builtin "len") (fun xs H Q => ∃ a kvs, xs = [V.ref a] ∧ Rd H a (.dK kvs) ∧ Q (.int kvs.length) H) := by
  intro pins s σ H xs us Q I r h
  obtain ⟨a, kvs, rfl, ha, q⟩ := h
  obtain ⟨u, rfl, ru⟩ := vals1 r
  cases ru
  exact d_len I ha fun t s' I' => ⟨.int kvs.length, H, I', ⟨t, rfl⟩, q⟩
theorem callLen : CallR X (.builtin "len") (rLenU X.K) := call_len.or call_lenR
theorem cLen_ok : CallD K B (rLenU K) cLen := by
  intro P al M env σ H vs ds R Q rs r h L
  unfold cLen at h
  split at h
  · rename_i x
    cases r with
    | cons r1 t =>
      cases t
      split at h
      · rename_i s e; cases view_str r1 e; exact .inl ⟨_, _, rfl, ⟨h.1.out, rfl⟩, L.here rs (.int _) h.2⟩
      · rename_i l e
        obtain ⟨a, xs, rfl, h1, q1⟩ := view_dct rs.toRS0 r1 e
        exact .inr ⟨a, xs, rfl, .inl h1, by rw [q1.length] at h; exact L.here rs (.int _) h⟩
      · rename_i l e
        obtain ⟨a, xs, rfl, h1, q1⟩ := view_fdc rs.toRS0 r1 e
        exact .inr ⟨a, xs, rfl, h1, by rw [q1.length] at h; exact L.here rs (.int _) h⟩
      · split at h
        · rename_i l e
          obtain ⟨a, xs, rfl, h1, q1⟩ := view_seq rs.toRS0 r1 e
          rw [q1.length] at h
          refine .inl ⟨_, xs.length, rfl, ?_, L.here rs (.int _) h⟩
          rcases h1 with h1 | h1
          · exact .inl ⟨xs, h1, rfl⟩
          · exact .inr ⟨xs, h1, rfl⟩
        · exact h.elim
  · exact h.elim
def cInt : WCl := fun ds M R => match ds with
  | [.int i] => R (.int i) M
  | [.bl b] => R (.int (if b then 1 else 0)) M
  | _ => False
theorem cInt_ok : CallD K B (fun xs H Q => (∃ i, xs = [.int i] ∧ Q (.int i) H) ∨ ∃ k, xs = [.bl k] ∧ Q (.int (if k then 1 else 0)) H) cInt := by
  intro P al M env σ H vs ds R Q rs r h L
  unfold cInt at h
  split at h
  · cases r with | cons r1 t => cases t; cases r1; exact .inl ⟨_, rfl, L.here rs (.int _) h⟩
  · cases r with | cons r1 t => cases t; cases r1; exact .inr ⟨_, rfl, L.here rs (.int _) h⟩
  · exact h.elim
def absI (i : Int) : Int := if i < 0 then -i else i
def cAbs : WCl := fun ds M R => match ds with
  | [.int i] => R (.int (absI i)) M
  | _ => False
theorem cAbs_ok : CallD K B (fun xs H Q => ∃ i, xs = [.int i] ∧ Q (.int (if i < 0 then -i else i)) H) cAbs := by
  intro P al M env σ H vs ds R Q rs r h L
  unfold cAbs at h
  split at h
  · cases r with | cons r1 t => cases t; cases r1; exact ⟨_, rfl, L.here rs (.int _) h⟩
  · exact h.elim
def cStrI : WCl := fun ds M R => match ds with
  | [.int i] => Need (i.natAbs.log2 < 1920) ∧ R (.str (toString i)) M
  | _ => False
theorem cStrI_ok : CallD K B (fun xs H Q => ∃ i, xs = [.int i] ∧ i.natAbs.log2 < 1920 ∧ Q (.str (toString i)) H) cStrI := by
  intro P al M env σ H vs ds R Q rs r h L
  unfold cStrI at h
  split at h
  · cases r with | cons r1 t => cases t; cases r1; exact ⟨_, rfl, h.1.out, L.here rs (.str _) h.2⟩
  · exact h.elim
/-- list(x), a new one -/
def cList (m : Bool) : WCl := fun ds M R => match ds with
  | [x] => match seqD (viewD M x) with
    | some l => if m then R (.cel M.length) (M ++ [.lst l]) else R (.lst l) M
    | none => False
  | _ => False
theorem cList_ok {m : Bool} : CallD K B (fun xs H Q => ∃ p ys, xs = [.ref p] ∧ (SqL K H p ys ∨ SqT K H p ys) ∧ ∀ l, H l = none → Q (.ref l) (upd H l (.lst ys))) (cList m) := by
  intro P al M env σ H vs ds R Q rs r h L
  unfold cList at h
  split at h
  · cases r with
    | cons r1 t =>
      cases t
      split at h
      · rename_i l e
        obtain ⟨a, xs, rfl, h1, q1⟩ := view_seq rs.toRS0 r1 e
        refine ⟨a, xs, rfl, h1, fun p hp => ?_⟩
        cases m with
        | true => exact L.allocM rs hp q1 h
        | false => exact L.alloc rs hp (.lst upd_same (q1.mono (same_new rs.toRS0 hp) (List.prefix_refl _))) h
      · exact h.elim
  · exact h.elim
def cTuple : WCl := fun ds M R => match ds with
  | [x] => match viewD M x with
    | .tup l => R (.tup l) M
    | .lst l => R (.tup l) M
    | .rol l => R (.tup l) M
    | _ => False
  | _ => False
theorem cTuple_ok : CallD K B (fun xs H Q => ∃ p ys, xs = [.ref p] ∧ ((SqL K H p ys ∧ ∀ l, H l = none → Q (.ref l) (upd H l (.tup ys))) ∨ (SqT K H p ys ∧ Q (.ref p) H))) cTuple := by
  intro P al M env σ H vs ds R Q rs r h L
  unfold cTuple at h
  split at h
  · cases r with
    | cons r1 t =>
      cases t
      split at h
      · rename_i l e
        obtain ⟨a, xs, rfl, h1, q1⟩ := view_tup rs.toRS0 r1 e
        rw [view_same rfl e] at r1
        exact ⟨a, xs, rfl, .inr ⟨h1, L.here rs r1 h⟩⟩
      · rename_i l e
        obtain ⟨a, xs, rfl, h1, q1⟩ := view_lst rs.toRS0 r1 e
        exact ⟨a, xs, rfl, .inl ⟨.inl (.inl h1), fun p hp => L.alloc rs hp (.tup (.inl (.inl upd_same)) (q1.mono (same_new rs.toRS0 hp) (List.prefix_refl _))) h⟩⟩
      · rename_i l e
        obtain ⟨a, xs, rfl, h1, q1⟩ := view_rol rs.toRS0 r1 e
        exact ⟨a, xs, rfl, .inl ⟨h1, fun p hp => L.alloc rs hp (.tup (.inl (.inl upd_same)) (q1.mono (same_new rs.toRS0 hp) (List.prefix_refl _))) h⟩⟩
      · exact h.elim
  · exact h.elim
def boolsD : List D → Option (List Bool)
  | [] => some []
  | .bl b :: r => (boolsD r).map (b :: ·)
  | _ => none
theorem bools_rep {P : Hp} {al : List Addr} : ∀ {ds : List D} {vs : List V} {bs : List Bool}, Reps K P al ds vs → boolsD ds = some bs → vs = bs.map V.bl
  | _, _, _, .nil, e => by cases e; rfl
  | _, _, _, .cons (d := d) (ds := ds) r t, e => by
    cases d <;> simp [boolsD] at e
    obtain ⟨bs, h, rfl⟩ := e
    cases r
    rw [bools_rep t h]; rfl
def lstD : D → Option (List D)
  | .lst l => some l
  | .rol l => some l
  | _ => none
theorem view_lstD {P : Hp} {al : List Addr} {M : Mt} {H : Hp} {d : D} {v : V} (r : RS0 K B P al M H) (q : Rep K P al d v) {ds : List D} (e : lstD (viewD M d) = some ds) : ∃ a xs, v = .ref a ∧ SqL K H a xs ∧ Reps K P al ds xs := by
  cases h : viewD M d <;> rw [h] at e <;> simp [lstD] at e
  · obtain ⟨a, xs, e1, e2, e3⟩ := view_lst r q h; subst e; exact ⟨a, xs, e1, .inl (.inl e2), e3⟩
  · obtain ⟨a, xs, e1, e2, e3⟩ := view_rol r q h; subst e; exact ⟨a, xs, e1, e2, e3⟩
def cAll (f : List Bool → Bool) : WCl := fun ds M R => match ds with
  | [x] => match lstD (viewD M x) with
    | some l => match boolsD l with
      | some bs => R (.bl (f bs)) M
      | none => False
    | none => False
  | _ => False
theorem cAll_ok {f : List Bool → Bool} : CallD K B (fun vs H Q => ∃ (a : Addr) (bs : List Bool), vs = [V.ref a] ∧ SqL K H a (bs.map V.bl) ∧ Q (.bl (f bs)) H) (cAll f) := by
  intro P al M env σ H vs ds R Q rs r h L
  unfold cAll at h
  split at h
  · cases r with
    | cons r1 t =>
      cases t
      split at h
      · rename_i l e1
        split at h
        · rename_i bs e2
          obtain ⟨a, xs, rfl, h1, q1⟩ := view_lstD rs.toRS0 r1 e1
          have := bools_rep q1 e2; subst this
          exact ⟨a, bs, rfl, h1, L.here rs (.bl _) h⟩
        · exact h.elim
      · exact h.elim
  · exact h.elim
/-- isinstance(x, T), T a built-in class -/
def tyN (M : Mt) (d : D) : Option String := match viewD M d with
  | .non => some "NoneType"
  | .bl _ => some "bool"
  | .int _ => some "int"
  | .str _ => some "str"
  | .tup _ => some "tuple"
  | .lst _ => some "list"
  | .dct _ => some "dict"
  | _ => none
/-- the answers, as a table -/
def isB (a b : String) : Bool := if a = b then true else if a = "bool" then decide (b = "int") else false
def isBs : List String := ["NoneType", "bool", "int", "str", "tuple", "list", "dict"]
theorem isB_ok : ∀ a ∈ isBs, ∀ b ∈ ["bool", "int", "str", "tuple", "list", "dict"], kitB a b = some (isB a b) := by decide +kernel
theorem tyN_ok {P : Hp} {al : List Addr} {M : Mt} {H : Hp} {d : D} {v : V} {n : String} (rs : RS0 K B P al M H) (r : Rep K P al d v) (e : tyN M d = some n) : n ∈ isBs ∧ TyX K H v (.type n) := by
  unfold tyN at e
  split at e <;> try cases e
  · rename_i h; cases view_non r h; exact ⟨by decide, .base .non⟩
  · rename_i h; cases view_bl r h; exact ⟨by decide, .base (.bl _)⟩
  · rename_i h; cases view_int r h; exact ⟨by decide, .base (.int _)⟩
  · rename_i h; cases view_str r h; exact ⟨by decide, .base (.str _)⟩
  · rename_i h
    obtain ⟨a, xs, rfl, h1, q1⟩ := view_tup rs r h
    refine ⟨by decide, ?_⟩
    rcases h1 with (h1 | ⟨o, h1⟩) | ⟨o, its, m, h1, h2, _⟩
    · exact .base (.tup h1)
    · exact .fTuple h1
    · exact .kTuple h1 h2
  · rename_i h
    obtain ⟨a, xs, rfl, h1, q1⟩ := view_lst rs r h
    exact ⟨by decide, .base (.lst h1)⟩
  · rename_i h
    obtain ⟨a, xs, rfl, h1, q1⟩ := view_dct rs r h
    exact ⟨by decide, .base (.dK h1)⟩
def cIsi : WCl := fun ds M R => match ds with
  | [x, .ty b] => match tyN M x with
    | some a => Need (b ∈ ["bool", "int", "str", "tuple", "list", "dict"]) ∧ R (.bl (isB a b)) M
    | none => False
  | _ => False
theorem cIsi_ok : CallD K B (rIsi K) cIsi := by
  intro P al M env σ H vs ds R Q rs r h L
  unfold cIsi at h
  split at h
  · cases r with
    | cons r1 t => cases t with
      | cons r2 t =>
        cases t; cases r2
        split at h
        · rename_i b _ a e
          obtain ⟨m, ty⟩ := tyN_ok rs.toRS0 r1 e
          exact ⟨_, _, _, _, _, rfl, .ty _, ty, kit_ty (isB_ok a m _ h.1.out), L.here rs (.bl _) h.2⟩
        · exact h.elim
  · exact h.elim
end
end L3

namespace L3
open PySem PySem.Spec PyProof.Rows L2
/-! ### dicts -/
section
variable {κ : Type} [DecidableEq κ]
def valD (kvs : List (κ × D)) (k : κ) : Option D := (kvs.find? fun kv => decide (kv.1 = k)).map (·.2)
def putD (kvs : List (κ × D)) (k : κ) (v : D) : List (κ × D) :=
  if (kvs.any fun kv => decide (kv.1 = k)) = true then kvs.map (fun kv => if kv.1 = k then (kv.1, v) else kv) else kvs ++ [(k, v)]
def mergeD (kvs more : List (κ × D)) : List (κ × D) := more.foldl (fun acc kv => putD acc kv.1 kv.2) kvs
end
section
variable {K : PySem.W.Frag} {P : Hp} {al : List Addr}
theorem RepKs.val : ∀ {ks : List (Key × D)} {vs : List (Key × V)}, RepKs K P al ks vs → ∀ (k : Key), (∀ d, valD ks k = some d → ∃ v, valV vs k = some v ∧ Rep K P al d v) ∧ (valD ks k = none → valV vs k = none)
  | _, _, .nil, k => ⟨fun d h => by simp [valD] at h, fun _ => rfl⟩
  | _, _, .cons (k := j) (d := d) (v := v) (ds := ds) (vs := vs) r t, k => by
    have ih := t.val k
    by_cases h : j = k
    · subst h
      have e1 : valD ((j, d) :: ds) j = some d := by simp [valD]
      have e2 : valV ((j, v) :: vs) j = some v := valV_pos rfl
      refine ⟨fun d' h => ?_, fun h => ?_⟩
      · rw [e1] at h; cases h; exact ⟨v, e2, r⟩
      · rw [e1] at h; cases h
    · have e1 : valD ((j, d) :: ds) k = valD ds k := by simp [valD, List.find?_cons, h]
      have e2 : valV ((j, v) :: vs) k = valV vs k := valV_neg h
      rw [e1, e2]; exact ih
theorem RepKs.any : ∀ {ks : List (Key × D)} {vs : List (Key × V)}, RepKs K P al ks vs → ∀ (k : Key), (ks.any fun kv => decide (kv.1 = k)) = vs.any fun kv => decide (kv.1 = k)
  | _, _, .nil, k => rfl
  | _, _, .cons r t, k => by rw [List.any_cons, List.any_cons, t.any k]
theorem RepKs.repl {d : D} {v : V} (q : Rep K P al d v) (k : Key) : ∀ {ks : List (Key × D)} {vs : List (Key × V)}, RepKs K P al ks vs → RepKs K P al (ks.map fun kv => if kv.1 = k then (kv.1, d) else kv) (vs.map fun kv => if kv.1 = k then (kv.1, v) else kv)
  | _, _, .nil => .nil
  | _, _, .cons (k := j) r t => by
    rw [List.map_cons, List.map_cons]
    by_cases h : j = k
    · simp only [h, if_true]; exact .cons q (t.repl q k)
    · simp only [h, if_false]; exact .cons r (t.repl q k)
theorem RepKs.snoc {d : D} {v : V} (q : Rep K P al d v) (k : Key) : ∀ {ks : List (Key × D)} {vs : List (Key × V)}, RepKs K P al ks vs → RepKs K P al (ks ++ [(k, d)]) (vs ++ [(k, v)])
  | _, _, .nil => .cons q .nil
  | _, _, .cons r t => .cons r (t.snoc q k)
theorem RepKs.put {d : D} {v : V} {ks : List (Key × D)} {vs : List (Key × V)} (r : RepKs K P al ks vs) (q : Rep K P al d v) (k : Key) : RepKs K P al (putD ks k d) (putK vs k v) := by
  unfold putD putK
  rw [r.any k]
  by_cases h : (vs.any fun kv => decide (kv.1 = k)) = true
  · rw [if_pos h, if_pos h]; exact r.repl q k
  · rw [if_neg h, if_neg h]; exact r.snoc q k
theorem RepKs.merge : ∀ {more : List (Key × D)} {moreV : List (Key × V)} {ks : List (Key × D)} {vs : List (Key × V)}, RepKs K P al more moreV → RepKs K P al ks vs → RepKs K P al (mergeD ks more) (mergeK vs moreV)
  | _, _, _, _, .nil, r => r
  | _, _, ks, vs, .cons (k := k) (d := d) (v := v) (ds := ds) (vs := vs') q t, r => by
    have h := RepKs.merge t (r.put q k)
    exact h
end
def keyD : D → Option Key
  | .int i => some (.inl i)
  | .str s => some (.inr s)
  | _ => none
theorem key_rep {K : PySem.W.Frag} {P : Hp} {al : List Addr} {d : D} {v : V} {k : Key} (r : Rep K P al d v) (e : keyD d = some k) : v = kV k := by
  cases r <;> simp [keyD] at e <;> subst e <;> rfl
def keysD : List (D × D) → Option (List (Key × D))
  | [] => some []
  | (k, d) :: r => match keyD k, keysD r with
    | some k', some r' => some ((k', d) :: r')
    | _, _ => none
def wPairs : List (WE × WE) → Ev → Mt → (List (D × D) → Mt → Prop) → Prop
  | [], _, M, R => R [] M
  | (wk, wv) :: r, env, M, R => wk env M fun x M1 => wv env M1 fun y M2 => wPairs r env M2 fun ps M3 => R ((x, y) :: ps) M3
section
variable {X : Cx} {B : Bs} {K : PySem.W.Frag} {a b o i e value : Expr} {es : List Expr} {wa wb we wo wi wv : WE} {was : WA} {pos tpos pos' : Pos}
/-- {} -/
def wDict0 (m : Bool) : WE := fun env M R => if m then R (.cel M.length) (M ++ [.dct []]) else R (.dct []) M
theorem Lift.allocDM {P : Hp} {al : List Addr} {M : Mt} {env : Ev} {σ : L2.St} {H : Hp} {p : Addr} {R : D → Mt → Prop} {Q : VK} (L : Lift K B P al env σ H R Q) (rs : RS K B P al M env σ H) (hp : H p = none) {ds : List (Key × D)} {vs : List (Key × V)} (r : RepKs K P al ds vs)
    (q : R (.cel M.length) (M ++ [.dct ds])) : Q (.ref p) (upd H p (.dK vs)) := by
  obtain ⟨e, r0⟩ := rs.toRS0.allocM (m := .dct ds) (o := .dK vs) hp fun P' al' s h hn H' e => ⟨hn, vs, e, r.mono s h⟩
  refine L _ _ _ _ _ _ e (rs.step e r0) (.cel ?_) q
  rw [← rs.len, List.getElem?_append_right (Nat.le_refl _), Nat.sub_self]; rfl
theorem d_dict0 (m : Bool) : DE B X (.Dict [] [] pos) (wDict0 m) := by
  refine pe_dnewK.imp fun σ H Q => ?_
  rintro ⟨P, al, M, env, R, rs, hw, L⟩
  intro p hp
  cases m with
  | true => exact L.allocDM rs hp .nil hw
  | false => exact L.alloc rs hp (.dct upd_same .nil) hw
/-- the pairs of a display, while the new dict stands empty at p -/
theorem pairs_imp : ∀ (ws : List (WE × WE)) {P : Hp} {al : List Addr} {M : Mt} {env : Ev} {σ : L2.St} {H : Hp} {R : List (D × D) → Mt → Prop} {Q : List (V × V) → Hp → Prop}, RS K B P al M env σ H → wPairs ws env M R →
    (∀ ps M' vs H' P' al', Ext P al H P' al' H' → RS K B P' al' M' env σ H' → Paired (fun (x : D × D) (y : V × V) => Rep K P' al' x.1 y.1 ∧ Rep K P' al' x.2 y.2) ps vs → R ps M' → Q vs H') → tPairs (ws.map fun w => (tD K B w.1, tD K B w.2)) σ H Q
  | [], P, al, M, env, σ, H, R, Q, rs, hw, L => L _ _ _ _ _ _ Ext.refl rs .nil hw
  | (wk, wv) :: r, P, al, M, env, σ, H, R, Q, rs, hw, L => by
    refine ⟨P, al, M, env, _, rs, hw, fun d1 M1 v1 H1 P1 al1 e1 rs1 r1 hw1 => ⟨P1, al1, M1, env, _, rs1, hw1, fun d2 M2 v2 H2 P2 al2 e2 rs2 r2 hw2 => ?_⟩⟩
    exact pairs_imp r rs2 hw2 fun ps M3 vs H3 P3 al3 e3 rs3 r3 q =>
      L _ _ _ _ _ _ (e1.trans (e2.trans e3)) rs3 (.cons ⟨r1.mono (e2.trans e3).pp (e2.trans e3).pre, r2.mono e3.pp e3.pre⟩ r3) q
theorem keys_rep {P : Hp} {al : List Addr} : ∀ {ps : List (D × D)} {vs : List (V × V)} {ks : List (Key × D)}, Paired (fun (x : D × D) (y : V × V) => Rep K P al x.1 y.1 ∧ Rep K P al x.2 y.2) ps vs → keysD ps = some ks → ∃ kvs : List (Key × V), vs = kvs.map (fun kv => (kV kv.1, kv.2)) ∧ RepKs K P al ks kvs
  | _, _, _, .nil, e => by cases e; exact ⟨[], rfl, .nil⟩
  | _, _, _, .cons (a := (x, y)) (b := (v, u)) r t, e => by
    unfold keysD at e
    split at e
    · rename_i k ks h1 h2
      cases e
      obtain ⟨kvs, rfl, q⟩ := keys_rep t h2
      refine ⟨(k, u) :: kvs, ?_, .cons r.2 q⟩
      rw [List.map_cons]
      have := key_rep r.1 h1
      simp only at this
      rw [this]
    · cases e
def wDisp (ws : List (WE × WE)) : WE := fun env M R => wPairs ws env M fun ps M1 => match keysD ps with
  | some ks => Need (ks.length ≤ 15) ∧ R (.dct (mergeD [] ks)) M1
  | none => False
def wDispM (ws : List (WE × WE)) : WE := fun env M R => wPairs ws env M fun ps M1 => match keysD ps with
  | some ks => Need (ks.length ≤ 15) ∧ R (.cel M1.length) (M1 ++ [.dct (mergeD [] ks)])
  | none => False
theorem RepKs.len {P : Hp} {al : List Addr} : ∀ {ds : List (Key × D)} {vs : List (Key × V)}, RepKs K P al ds vs → ds.length = vs.length
  | _, _, .nil => rfl
  | _, _, .cons _ t => by simp [RepKs.len t]
theorem d_disp {keys : List (Option Expr)} {values : List Expr} {ws : List (WE × WE)} (h : PPs X pos keys values (ws.map fun w => (tD X.K B w.1, tD X.K B w.2))) (hall : keys.all (·.isSome) = true) (hl : keys.length = values.length) (h0 : keys ≠ []) (h15 : keys.length ≤ 15) : DE B X (.Dict keys values pos) (wDisp ws) := by
  refine (pe_disp h hall hl h0 h15).imp fun σ H Q => ?_
  rintro ⟨P, al, M, env, R, rs, hw, L⟩
  intro p hp
  obtain ⟨hb, na⟩ := rs.toRS0.fresh hp
  have np := rs.toRS0.free hp
  have rs1 : RS X.K B P al M env σ (upd H p (.dK [])) := ⟨rs.toRS0.priv np na hb _, rs.slen, rs.slot⟩
  refine pairs_imp ws rs1 hw fun ps M2 vs H2 P2 al2 e2 rs2 r2 q => ?_
  have hp2 : H2 p = some (.dK []) := e2.fr _ _ upd_same na
  have na2 : p ∉ al2 := fun m => by have := e2.new _ m na; rw [upd_same] at this; cases this
  have np2 : P2 p = none := e2.pn _ _ upd_same ⟨fun _ u => (by cases u), fun _ u => (by cases u)⟩ np na
  split at q
  · rename_i ks hk
    obtain ⟨kvs, rfl, rk⟩ := keys_rep r2 hk
    refine ⟨hp2, kvs, rfl, by rw [← rk.len]; exact q.1.out, ?_⟩
    have e3 : Ext P al H P2 al2 H2 := ⟨e2.pp, e2.pre, fun b x h n => e2.fr b x (by rw [upd_ne (ne_of_none h hp)]; exact h) n, fun b m n => by
        have := e2.new b m n
        by_cases hz : b = p
        · rw [hz]; exact hp
        · rw [upd_ne hz] at this; exact this, fun b x h h1 h2 h3 => e2.pn b x (by rw [upd_ne (ne_of_none h hp)]; exact h) h1 h2 h3⟩
    have e4 := (e3.priv hp (.dK (mergeK [] kvs))).pub hp np2 (.dK (mergeK [] kvs))
    have r4 := (rs2.toRS0.priv np2 na2 hb (.dK (mergeK [] kvs))).pub np2 na2 hb upd_same
    have sm : Same P2 (upd P2 p (.dK (mergeK [] kvs))) := fun b x h => by rw [upd_ne (ne_of_none h np2)]; exact h
    exact L _ _ _ _ _ _ e4 (rs.step e4 r4) (.dct upd_same ((RepKs.merge rk .nil).mono sm (List.prefix_refl _))) q.2
  · exact q.elim
/-- d[k] -/
@[irreducible] def oDGet : WO2 := fun x y M R => match viewD M x, keyD y with
  | .dct ks, some k => match valD ks k with
    | some d => R d M
    | none => False
  | .fdc ks, some k => match valD ks k with
    | some d => R d M
    | none => False
  | _, _ => False
theorem d_dget (hu : X.A.units + 1 < cLine) (ho : DE B X o wo) (hi : DE B X i wi) (hs : NoSl i := by intro _ _; rfl) : DE B X (.Subscript o i pos) (wOp oDGet wo wi) := by
  refine (pe_dget hu ho hi hs).imp fun σ H Q => ?_
  rintro ⟨P, al, M, env, R, rs, hw, L⟩
  refine ⟨P, al, M, env, _, rs, hw, fun d1 M1 v1 H1 P1 al1 e1 rs1 r1 hw1 => ⟨P1, al1, M1, env, _, rs1, hw1, fun d2 M2 v2 H2 P2 al2 e2 rs2 r2 q => ?_⟩⟩
  unfold oDGet at q
  split at q
  · rename_i ks k h1 h2
    split at q
    · rename_i d hd
      obtain ⟨a, xs, rfl, g1, g2⟩ := view_dct rs2.toRS0 (r1.mono e2.pp e2.pre) h1
      obtain ⟨v, g3, g4⟩ := (g2.val k).1 d hd
      refine ⟨a, v, rfl, .inl ⟨xs, k, .inl g1, key_rep r2 h2, g3.symm⟩, L _ _ _ _ _ _ (e1.trans e2) rs2 g4 q⟩
    · exact q.elim
  · rename_i ks k h1 h2
    split at q
    · rename_i d hd
      obtain ⟨a, xs, rfl, g1, g2⟩ := view_fdc rs2.toRS0 (r1.mono e2.pp e2.pre) h1
      obtain ⟨v, g3, g4⟩ := (g2.val k).1 d hd
      refine ⟨a, v, rfl, .inl ⟨xs, k, g1, key_rep r2 h2, g3.symm⟩, L _ _ _ _ _ _ (e1.trans e2) rs2 g4 q⟩
    · exact q.elim
  · exact q.elim
/-- k in d, k not in d -/
def oDIn (neg : Bool) : WO2 := fun x y M R => match viewD M y, keyD x with
  | .dct ks, some k => R (.bl (if neg then !(valD ks k).isSome else (valD ks k).isSome)) M
  | .fdc ks, some k => R (.bl (if neg then !(valD ks k).isSome else (valD ks k).isSome)) M
  | _, _ => False
theorem some_iff {K : PySem.W.Frag} {P : Hp} {al : List Addr} {ks : List (Key × D)} {vs : List (Key × V)} (r : RepKs K P al ks vs) (k : Key) : (valV vs k).isSome = (valD ks k).isSome := by
  cases h : valD ks k with
  | none => rw [(r.val k).2 h] <;> rfl
  | some d => obtain ⟨v, g, _⟩ := (r.val k).1 d h; rw [g] <;> rfl
theorem dc_in (hu : X.A.units + 1 < cLine) (hi : DE B X i wi) (ho : DE B X o wo) : PC X .In i o (fun σ H Q => tD X.K B (wOp (oDIn false) wi wo) σ H Q) := by
  refine ⟨fun pins s σ H Q I h => (pc_din hu hi ho).run pins s σ H Q I ?_⟩
  obtain ⟨P, al, M, env, R, rs, hw, L⟩ := h
  refine ⟨P, al, M, env, _, rs, hw, fun d1 M1 v1 H1 P1 al1 e1 rs1 r1 hw1 => ⟨P1, al1, M1, env, _, rs1, hw1, fun d2 M2 v2 H2 P2 al2 e2 rs2 r2 q => ?_⟩⟩
  unfold oDIn at q
  split at q
  · rename_i ks k h1 h2
    obtain ⟨a, xs, rfl, g1, g2⟩ := view_dct rs2.toRS0 r2 h1
    refine ⟨a, _, rfl, .inl ⟨xs, k, .inl g1, key_rep r1 h2, rfl⟩, ?_⟩
    rw [some_iff g2 k]
    exact L _ _ _ _ _ _ (e1.trans e2) rs2 (.bl _) q
  · rename_i ks k h1 h2
    obtain ⟨a, xs, rfl, g1, g2⟩ := view_fdc rs2.toRS0 r2 h1
    refine ⟨a, _, rfl, .inl ⟨xs, k, g1, key_rep r1 h2, rfl⟩, ?_⟩
    rw [some_iff g2 k]
    exact L _ _ _ _ _ _ (e1.trans e2) rs2 (.bl _) q
  · exact q.elim
theorem dc_notin (hu : X.A.units + 1 < cLine) (hi : DE B X i wi) (ho : DE B X o wo) : PC X .NotIn i o (fun σ H Q => tD X.K B (wOp (oDIn true) wi wo) σ H Q) := by
  refine ⟨fun pins s σ H Q I h => (pc_dnotin hu hi ho).run pins s σ H Q I ?_⟩
  obtain ⟨P, al, M, env, R, rs, hw, L⟩ := h
  refine ⟨P, al, M, env, _, rs, hw, fun d1 M1 v1 H1 P1 al1 e1 rs1 r1 hw1 => ⟨P1, al1, M1, env, _, rs1, hw1, fun d2 M2 v2 H2 P2 al2 e2 rs2 r2 q => ?_⟩⟩
  unfold oDIn at q
  split at q
  · rename_i ks k h1 h2
    obtain ⟨a, xs, rfl, g1, g2⟩ := view_dct rs2.toRS0 r2 h1
    refine ⟨a, _, rfl, .inl ⟨xs, k, .inl g1, key_rep r1 h2, rfl⟩, ?_⟩
    rw [some_iff g2 k]
    exact L _ _ _ _ _ _ (e1.trans e2) rs2 (.bl _) q
  · rename_i ks k h1 h2
    obtain ⟨a, xs, rfl, g1, g2⟩ := view_fdc rs2.toRS0 r2 h1
    refine ⟨a, _, rfl, .inl ⟨xs, k, g1, key_rep r1 h2, rfl⟩, ?_⟩
    rw [some_iff g2 k]
    exact L _ _ _ _ _ _ (e1.trans e2) rs2 (.bl _) q
  · exact q.elim
theorem d_din (hu : X.A.units + 1 < cLine) (hi : DE B X i wi) (ho : DE B X o wo) (hm : behindInMarks .In o = false := by rfl) : DE B X (.Compare i [.In] [o] pos) (wOp (oDIn false) wi wo) := pe_cmp (dc_in hu hi ho) hm
theorem d_dnotin (hu : X.A.units + 1 < cLine) (hi : DE B X i wi) (ho : DE B X o wo) (hm : behindInMarks .NotIn o = false := by rfl) : DE B X (.Compare i [.NotIn] [o] pos) (wOp (oDIn true) wi wo) := pe_cmp (dc_notin hu hi ho) hm
/-- d[k] = v, d a dict that changes -/
@[irreducible] def dput (x y d : D) (M : Mt) (R : Mt → Prop) : Prop := match x, keyD y with
  | .cel n, some j => match M[n]? with
    | some (.dct ks) => Need (ks.length < sizeLine) ∧ R (M.set n (.dct (putD ks j d)))
    | _ => False
  | _, _ => False
def wDPut (wo wi wv : WE) : WS := fun k env M => wv env M fun d M1 => wo env M1 fun x M2 => wi env M2 fun y M3 => dput x y d M3 (k.nx env)
theorem d_dput (hu : X.A.units + 1 < cLine) (ho : DE B X o wo) (hi : DE B X i wi) (hv : DE B X value wv) (hs : swapsWith value (some (.Subscript o i pos')) pos.line X.env = pure false := by rfl) : DS B X (.Assign [.Subscript o i pos'] value pos) (wDPut wo wi wv) := by
  refine (ps_dput hu ho hi hv hs).imp fun D σ H => ?_
  rintro ⟨P, al, M, env, k, rs, hw, L⟩
  refine ⟨P, al, M, env, _, rs, hw, fun d1 M1 v1 H1 P1 al1 e1 rs1 r1 hw1 => ⟨P1, al1, M1, env, _, rs1, hw1, fun d2 M2 v2 H2 P2 al2 e2 rs2 r2 hw2 => ⟨P2, al2, M2, env, _, rs2, hw2, fun d3 M3 v3 H3 P3 al3 e3 rs3 r3 q => ?_⟩⟩⟩
  unfold dput at q
  split at q
  · rename_i n j h1
    split at q
    · rename_i ks hm
      obtain ⟨a, rfl, ha, _, xs, g1, g2⟩ := cell_at rs3.toRS0 hm (r2.mono e3.pp e3.pre)
      have r1' := r1.mono (e2.trans e3).pp (e2.trans e3).pre
      obtain ⟨e4, r4⟩ := rs3.toRS0.change (o' := .dK (putK xs j v1)) (m' := .dct (putD ks j d1)) ha hm rfl fun H' hH => ⟨(live_cell rfl (rs3.cell n a _ ha hm)).1, _, hH, g2.put r1' j⟩
      refine ⟨a, _, rfl, .inl ⟨xs, j, g1, key_rep r3 h1, by rw [← g2.len]; exact q.1.out, rfl⟩, ?_⟩
      exact L.nx _ _ _ _ _ _ (e1.trans (e2.trans (e3.trans e4))) (rs3.step e4 r4) q.2
    · exact q.elim
  · exact q.elim

/-! ### methods of built-in types -/
def tyM (T : String) (d : D) : Prop := match d with
  | .str _ => T = "str"
  | .lst _ => T = "list"
  | .rol _ => T = "list"
  | .dct _ => T = "dict"
  | _ => False
abbrev WM := D → List D → Mt → (D → Mt → Prop) → Prop
def wBM (T : String) (m : WM) (wo : WE) (was : WA) : WE := fun env M R => wo env M fun x M1 => Need (tyM T (viewD M1 x)) ∧ was env M1 fun ds M2 => m x ds M2 R
def MethD (K : PySem.W.Frag) (B : Bs) (r : V → List V → Hp → VK → Prop) (m : WM) : Prop := ∀ P al M env σ H x dx vs ds R Q, RS K B P al M env σ H → Rep K P al dx x → Reps K P al ds vs → m dx ds M R → Lift K B P al env σ H R Q → r x vs H Q
theorem tyM_ok {P : Hp} {al : List Addr} {M : Mt} {H : Hp} {d : D} {v : V} {T : String} (rs : RS0 K B P al M H) (r : Rep K P al d v) (e : tyM T (viewD M d)) : tyV K T v H := by
  unfold tyM at e
  split at e
  · rename_i h; cases view_str r h; exact e
  · rename_i h; obtain ⟨a, xs, rfl, h1, _⟩ := view_lst rs r h; exact .inl ⟨e, xs, .inl (.inl h1)⟩
  · rename_i h; obtain ⟨a, xs, rfl, h1, _⟩ := view_rol rs r h; exact .inl ⟨e, xs, h1⟩
  · rename_i h; obtain ⟨a, xs, rfl, h1, _⟩ := view_dct rs r h; exact .inr (.inr (.inl ⟨e, .inl ⟨xs, h1⟩⟩))
  · exact e.elim
theorem bm_imp {r : V → List V → Hp → VK → Prop} {m : WM} {T : String} (h : MethD K B r m) (σ : L2.St) (H : Hp) (Q : VK) : tD K B (wBM T m wo was) σ H Q → tBM K T r (tD K B wo) (tDA K B was) σ H Q := by
  rintro ⟨P, al, M, env, R, rs, hw, L⟩
  exact ⟨P, al, M, env, _, rs, hw, fun d1 M1 v1 H1 P1 al1 e1 rs1 r1 hw1 => ⟨tyM_ok rs1.toRS0 r1 hw1.1.out, P1, al1, M1, env, _, rs1, hw1.2, fun ds M2 vs H2 P2 al2 e2 rs2 r2 q =>
    h _ _ _ _ _ _ _ _ _ _ _ _ rs2 (r1.mono e2.pp e2.pre) r2 q (L.after (e1.trans e2))⟩⟩
theorem d_bm {T id : String} {name : Str} {apos cpos : Pos} {r : V → List V → Hp → VK → Prop} {m : WM} (pa : PlainAttrs T) (slot : Slot T name id) (hty : typeOf (.builtin id) = pure (.type "method_descriptor")) (hm : MtR X id r) (h : MethD X.K B r m) (ho : DE B X o wo) (ha : DA B X (e :: es) was)
    (hbase : attributeBase o name X.env (eval o X.env) = eval o X.env := by rfl)
    (hfew : ((backTo cpos (starEach (e :: es) X.env)).all (fun x => !x.1) && (backToKw cpos (keywordEach [] X.env)).all (fun x => x.1.isSome)
      && decide ((e :: es).length + ([] : List Keyword).length + (if ([] : List Keyword).isEmpty then 0 else 1) < 30)) = true := by rfl)
    (hline : (apos.endLine == cpos.line) = true := by rfl) (hs : starEach (e :: es) X.env = (false, eval e X.env) :: starEach es X.env := by rfl) (hplain : (backTo cpos (starEach es X.env)).any (·.1) = false := by rfl) :
    DE B X (.Call (.Attribute o name apos) (e :: es) [] cpos) (wBM T m wo was) := (pe_bm pa slot hty hm ho ha hbase hfew hline hs hplain).imp (bm_imp h)
theorem d_bm0 {T id : String} {name : Str} {apos cpos : Pos} {r : V → List V → Hp → VK → Prop} {m : WM} (pa : PlainAttrs T) (slot : Slot T name id) (hty : typeOf (.builtin id) = pure (.type "method_descriptor")) (hm : MtR X id r) (h : MethD X.K B r m) (ho : DE B X o wo)
    (hbase : attributeBase o name X.env (eval o X.env) = eval o X.env := by rfl) (hline : (apos.endLine == cpos.line) = true := by rfl) :
    DE B X (.Call (.Attribute o name apos) [] [] cpos) (wBM T m wo wNil) := by
  refine (pe_bm0 pa slot hty hm ho hbase hline).imp fun σ H Q hh => ?_
  obtain ⟨P, al, M, env, R, rs, hw, L⟩ := bm_imp (was := wNil) h σ H Q hh
  refine ⟨P, al, M, env, R, rs, hw, fun d1 M1 v1 H1 P1 al1 e1 rs1 r1 q => ?_⟩
  obtain ⟨q1, P2, al2, M2, env2, R2, rs2, hw2, L2⟩ := L d1 M1 v1 H1 P1 al1 e1 rs1 r1 q
  exact ⟨q1, L2 _ _ _ _ _ _ Ext.refl rs2 .nil hw2⟩
@[irreducible] def mAppend : WM := fun x ds M R => match x, ds with
  | .cel n, [d] => match M[n]? with
    | some (.lst l) => Need (l.length < sizeLine) ∧ R .non (M.set n (.lst (l ++ [d])))
    | _ => False
  | _, _ => False
theorem mAppend_ok : MethD K B rAppend mAppend := by
  intro P al M env σ H x dx vs ds R Q rs r1 r2 h L
  unfold mAppend at h
  split at h
  · rename_i n d
    cases r2 with
    | cons q1 t =>
      cases t
      split at h
      · rename_i l hm
        obtain ⟨a, rfl, ha, _, xs, g1, g2⟩ := cell_at rs.toRS0 hm r1
        obtain ⟨e4, r4⟩ := rs.toRS0.change (o' := .lst (xs ++ [_])) (m' := .lst (l ++ [d])) ha hm rfl fun H' hH => ⟨(live_cell rfl (rs.cell n a _ ha hm)).1, _, hH, g2.append (.cons q1 .nil)⟩
        exact ⟨a, xs, _, rfl, rfl, g1, by rw [← g2.length]; exact h.1.out, L _ _ _ _ _ _ e4 (rs.step e4 r4) .non h.2⟩
      · exact h.elim
  · exact h.elim
@[irreducible] def mPopAt : WM := fun x ds M R => match x, ds with
  | .cel n, [.int i] => match M[n]? with
    | some (.lst l) => Need (-(2 ^ 63) ≤ i ∧ i < 2 ^ 63) ∧ (match seqIndex? i l.length with
      | some k => match l[k]? with
        | some d => R d (M.set n (.lst (l.eraseIdx k)))
        | none => False
      | none => False)
    | _ => False
  | _, _ => False
theorem mPopAt_ok : MethD K B rPopAt mPopAt := by
  intro P al M env σ H x dx vs ds R Q rs r1 r2 h L
  unfold mPopAt at h
  split at h
  · rename_i n i
    cases r2 with
    | cons q1 t =>
      cases t; cases q1
      split at h
      · rename_i l hm
        obtain ⟨⟨h1, h2⟩, h3⟩ := h
        split at h3
        · rename_i k hk
          split at h3
          · rename_i d hd
            obtain ⟨a, rfl, ha, _, xs, g1, g2⟩ := cell_at rs.toRS0 hm r1
            obtain ⟨v, g3, g4⟩ := g2.get hd
            obtain ⟨e4, r4⟩ := rs.toRS0.change (o' := .lst (xs.eraseIdx k)) (m' := .lst (l.eraseIdx k)) ha hm rfl fun H' hH => ⟨(live_cell rfl (rs.cell n a _ ha hm)).1, _, hH, g2.erase k⟩
            exact ⟨a, xs, i, k, v, rfl, rfl, g1, h1, h2, by rw [← g2.length]; exact hk, g3, L _ _ _ _ _ _ e4 (rs.step e4 r4) (g4.mono e4.pp e4.pre) h3⟩
          · exact h3.elim
        · exact h3.elim
      · exact h.elim
  · exact h.elim

/-! ### names of the module -/
theorem d_gint {x : Str} {n : Int} {t : Tok} (hm : X.mg x = some (.int n t)) (hg : Gl X x := by rfl) (hd : (x == ("__debug__" : Str)) = false := by decide) : DE B X (.Name x pos) (wC (.int n)) := d_C (v := .int n) (pe_glob hg hm ⟨_, rfl⟩ hd) fun _ _ => .int n
theorem d_gstr {x : Str} {s : Str} {t : Tok} (hm : X.mg x = some (.str s t)) (hg : Gl X x := by rfl) (hd : (x == ("__debug__" : Str)) = false := by decide) : DE B X (.Name x pos) (wC (.str s)) := d_C (v := .str s) (pe_glob hg hm ⟨_, rfl⟩ hd) fun _ _ => .str s
theorem d_gadr {x : Str} {a : Addr} (hm : X.mg x = some (.ref a)) (hg : Gl X x := by rfl) (hd : (x == ("__debug__" : Str)) = false := by decide) : DE B X (.Name x pos) (wC (.adr a)) := d_C (v := .ref a) (pe_glob hg hm rfl hd) fun _ _ => .adr a
theorem d_ty {x : Str} {T : String} (hm : X.mg x = none) (hv : bootBuiltins x = some (.type T)) (hg : Gl X x := by rfl) (hn : x ≠ "__name__" := by decide) (hd : (x == ("__debug__" : Str)) = false := by decide) : DE B X (.Name x pos) (wC (.ty T)) := d_C (v := .ty T) (pe_bltn hg hm hv rfl hn hd) fun _ _ => .ty T
/-- a tuple of texts and numbers that the top made -/
def constD : Value → Option D
  | .none => some .non
  | .bool b => some (.bl b)
  | .int i _ => some (.int i)
  | .str s _ => some (.str s)
  | _ => none
def constDs : List Value → Option (List D)
  | [] => some []
  | v :: r => match constD v, constDs r with
    | some d, some ds => some (d :: ds)
    | _, _ => none
theorem const_rep : ∀ {us : List Value} {ds : List D}, constDs us = some ds → ∃ vs, Vals vs us ∧ ∀ P al, Reps K P al ds vs
  | [], ds, e => by cases e; exact ⟨[], .nil, fun _ _ => .nil⟩
  | v :: r, ds, e => by
    unfold constDs at e
    split at e
    · rename_i d ds' h1 h2
      cases e
      obtain ⟨vs, h3, h4⟩ := const_rep h2
      cases v <;> simp [constD] at h1 <;> subst h1
      · exact ⟨.non :: vs, .cons rfl h3, fun P al => .cons .non (h4 P al)⟩
      · exact ⟨.bl _ :: vs, .cons rfl h3, fun P al => .cons (.bl _) (h4 P al)⟩
      · exact ⟨.int _ :: vs, .cons ⟨_, rfl⟩ h3, fun P al => .cons (.int _) (h4 P al)⟩
      · exact ⟨.str _ :: vs, .cons ⟨_, rfl⟩ h3, fun P al => .cons (.str _) (h4 P al)⟩
    · cases e
theorem d_gtup {x : Str} {a : Addr} {o : Obj} {its : Array Value} {n : Nat} {ds : List D} (hm : X.mg x = some (.ref a)) (hk : X.K.lookup a = some o) (hc : o.cls = .type "tuple") (hd : o.data = .seq its n) (hz : its.size ≤ sizeLine) (he : constDs its.toList = some ds)
    (hg : Gl X x := by rfl) (hdb : (x == ("__debug__" : Str)) = false := by decide) : DE B X (.Name x pos) (wC (.tup ds)) := by
  obtain ⟨vs, h1, h2⟩ := const_rep (K := X.K) he
  exact d_C (v := .ref a) (pe_glob hg hm rfl hdb) fun P al => .tup (.inr ⟨o, its, n, hk, hc, hd, hz, h1⟩) (h2 P al)
end
end L3

namespace L3
open PySem PySem.Spec PyProof.Rows L2
/-! ### plain facts for the ends of a step -/
theorem cdivw {i j : Int} (h : 0 < j) (h2 : j < 1073741824) : CDivW i j :=
  wide_div (b := 30) h (by omega) (by decide) (by decide)
theorem cpow {i j : Int} (h : 0 ≤ j) (h2 : j ≤ 1000000) (h3 : -18446744073709551616 < i) (h4 : i < 18446744073709551616) : CPow i j := ⟨h, h2, by omega⟩
theorem cmul_l {i j : Int} (h3 : -18446744073709551616 < i) (h4 : i < 18446744073709551616) : CMulU i j := .inl (.inl ⟨by omega, by omega⟩)
theorem cmul_r {i j : Int} (h3 : -18446744073709551616 < j) (h4 : j < 18446744073709551616) : CMulU i j := .inl (.inr ⟨by omega, by omega⟩)
theorem toPs_map {α : Type} {f : α → D} {g : α → PyData} (h : ∀ x, toP (f x) = some (g x)) : ∀ l : List α, toPs (l.map f) = some (l.map g)
  | [] => rfl
  | x :: r => by simp only [List.map_cons, toPs, h, toPs_map h r]
theorem canLay_map {α : Type} {g : α → PyData} : ∀ {l : List α}, (∀ x ∈ l, PyData.canLay0 (g x) = true) → PyData.canLayAll0 (l.map g) = true
  | [], _ => rfl
  | x :: r, h => by
    rw [List.map_cons]
    simp only [PyData.canLayAll0, h x List.mem_cons_self, canLay_map fun y hy => h y (List.mem_cons_of_mem _ hy), Bool.and_self]
theorem depth_map {α : Type} {g : α → PyData} {n : Nat} : ∀ {l : List α}, (∀ x ∈ l, PyData.depth (g x) ≤ n) → PyData.depthAll (l.map g) ≤ n
  | [], _ => Nat.zero_le _
  | x :: r, h => by
    rw [List.map_cons]
    simp only [PyData.depthAll]
    exact Nat.max_le.mpr ⟨h x List.mem_cons_self, depth_map fun y hy => h y (List.mem_cons_of_mem _ hy)⟩
theorem shaped_map {α : Type} {g : α → PyData} {l : List α} (h : ∀ x ∈ l, PyData.canLay0 (g x) = true) (h2 : ∀ x ∈ l, PyData.depth (g x) ≤ 63) : SeqAt.shaped (.list (l.map g)) = true := by
  unfold SeqAt.shaped
  simp only [PyData.canLay0, canLay_map h, PyData.depth, Bool.true_and]
  have := depth_map h2
  exact decide_eq_true (by omega)
theorem plain_ints (l : List Int) : plainOk (l.map D.int) := ⟨_, toPs_map (g := .int) (fun _ => rfl) l, shaped_map (fun _ _ => rfl) fun _ _ => Nat.zero_le _⟩
theorem plain_strs (l : List Str) (h : ∀ s ∈ l, PyData.strOk s = true) : plainOk (l.map D.str) := ⟨_, toPs_map (g := .str) (fun _ => rfl) l, shaped_map (fun s hs => by simp only [PyData.canLay0]; exact h s hs) fun _ _ => Nat.zero_le _⟩
theorem line16 : (sizeLine : Nat) = 16777216 := sizeLine_eq
theorem atI_in {α : Type} {xs : List α} {i : Int} (h : 0 ≤ i) (h2 : i < xs.length) : L2.atI xs i = xs[i.toNat]? := by
  have e : ixN xs.length i = some i.toNat := by unfold ixN; rw [if_pos h, if_pos h2]
  unfold L2.atI; rw [e]; rfl
/-! ### loops and comprehensions by what they do -/
theorem bnd_mono {is : List Nat} {d : D} {env : Ev} {k k' : Ev → Prop} (h : ∀ e, k e → k' e) (q : bnd is d env k) : bnd is d env k' := by
  rcases is with _ | ⟨i, _ | ⟨j, _ | ⟨l, r⟩⟩⟩
  · exact False.elim q
  · exact h _ q
  · cases d with
    | tup l =>
      rcases l with _ | ⟨x, _ | ⟨y, _ | ⟨z, r⟩⟩⟩
      · exact False.elim q
      · exact False.elim q
      · exact h _ q
      · exact False.elim q
    | _ => exact False.elim q
  · exact False.elim q
/-- a comprehension whose element and test are functions of the item -/
theorem lcL_fun {is vs : List Nat} {t : WTs} {we : WE} {env : Ev} {M : Mt} (p : D → Bool) (f : D → D) : ∀ (ds acc : List D) (R : List D → Mt → Prop), acc.length + ds.length ≤ sizeLine →
    (∀ d ∈ ds, ∀ (A : D → Mt → Prop) (C : Mt → Prop), (p d = true → A (f d) M) → (p d = false → C M) → bnd is d (wipeE env vs) fun env1 => t env1 M fun b M2 => ifB b (we env1 M2 A) (C M2)) →
    R (acc ++ (ds.filter p).map f) M → lcL is t we vs env ds acc M R
  | [], acc, R, _, _, h => by
    show R acc M
    simpa using h
  | d :: r, acc, R, hl, hs, h => by
    refine hs d List.mem_cons_self _ _ (fun hp => ⟨⟨by simp at hl; omega⟩, ?_⟩) fun hp => ?_
    · refine lcL_fun p f r (acc ++ [f d]) R (by simp at hl ⊢; omega) (fun x hx => hs x (List.mem_cons_of_mem _ hx)) ?_
      rw [List.filter_cons_of_pos hp, List.map_cons] at h
      simpa using h
    · refine lcL_fun p f r acc R (by simp at hl ⊢; omega) (fun x hx => hs x (List.mem_cons_of_mem _ hx)) ?_
      rw [List.filter_cons_of_neg (by simp [hp])] at h
      exact h
/-- without a test -/
theorem lcL_map {is vs : List Nat} {we : WE} {env : Ev} {M : Mt} (f : D → D) (ds : List D) (R : List D → Mt → Prop) (hl : ds.length ≤ sizeLine)
    (hs : ∀ d ∈ ds, ∀ (A : D → Mt → Prop), A (f d) M → bnd is d (wipeE env vs) fun env1 => we env1 M A) (h : R (ds.map f) M) : lcL is wYes we vs env ds [] M R := by
  refine lcL_fun (fun _ => true) f ds [] R (by simpa using hl) (fun d hd A C hA _ => ?_) (by rw [List.filter_eq_self.mpr fun _ _ => rfl]; exact h)
  exact bnd_mono (fun e q => ⟨fun _ => q, fun z => by cases z⟩) (hs d hd A (hA rfl))
theorem boolsD_map {α : Type} {f : α → D} {g : α → Bool} (h : ∀ x, f x = .bl (g x)) : ∀ l : List α, boolsD (l.map f) = some (l.map g)
  | [] => rfl
  | x :: r => by simp only [List.map_cons, h, boolsD, boolsD_map h r, Option.map_some]
theorem mem_chars {s : Str} {d : D} (h : d ∈ chars s) : ∃ c, c ∈ s.cps.toList ∧ d = .str ⟨#[c]⟩ := by
  obtain ⟨c, h1, h2⟩ := List.mem_map.mp h
  exact ⟨c, h1, h2.symm⟩
theorem chars_map (s : Str) (f : D → D) : (chars s).map f = s.cps.toList.map fun c => f (.str ⟨#[c]⟩) := by
  unfold chars; rw [List.map_map]; rfl
theorem chars_len (s : Str) : (chars s).length = s.length := by
  unfold chars; rw [List.length_map, Array.length_toList]; rfl
/-- a for loop by an invariant over the turn -/
theorem forL_inv {g : WG} {b : WS} {k : DEnds} (I : Nat → Ev → Mt → Prop) {ds : List D} {env : Ev} {M : Mt} (h0 : I 0 env M)
    (hs : ∀ (i : Nat) (d : D) (env : Ev) (M : Mt), ds[i]? = some d → I i env M → g d env M fun env1 M1 => b { nx := I (i + 1), ct := I (i + 1), bk := k.nx, rt := k.rt } env1 M1)
    (hd : ∀ env M, I ds.length env M → k.nx env M) : forL g b k ds env M := by
  have key : ∀ (n i : Nat), i + n = ds.length → ∀ env M, I i env M → forL g b k (ds.drop i) env M := by
    intro n
    induction n with
    | zero =>
      intro i hi env M h
      rw [List.drop_eq_nil_of_le (by omega)]
      have : i = ds.length := by omega
      subst this
      exact hd _ _ h
    | succ n ih =>
      intro i hi env M h
      have hlt : i < ds.length := by omega
      rw [List.drop_eq_getElem_cons hlt]
      exact ⟨I (i + 1), fun env' M' h' => ih (i + 1) (by omega) env' M' h', hs i _ env M (List.getElem?_eq_getElem hlt) h⟩
  have := key ds.length 0 (by omega) env M h0
  simpa using this
/-- the law's call: the script is a list that is read alone -/
theorem law_sp {K : PySem.W.Frag} {H : Hp} {a : Addr} {ns : List Int} {sp : DSp} {E : XK} (hsp : ∀ ns : List Int, ns.length ≤ 63 → ∀ R RX, (∀ M, R (.bl true) M) → sp [.rol (ns.map D.int)] [] R RX) (hl : ns.length ≤ 63) (hS : SqL K H a (ns.map V.int)) :
    toSp K sp [.ref a] H (fun v _ => v = .bl true) E := by
  have hr : ∀ l : List Int, Reps K H [] (l.map D.int) (l.map V.int) := fun l => by
    induction l with
    | nil => exact .nil
    | cons x r ih => exact .cons (.int x) ih
  refine ⟨H, [], [], _, fun d _ => d = .bl true, RX0, ⟨Ext.refl, Same.refl _, rfl, fun i a m h => by simp at h, fun i j a m n h => by simp at h, fun a h => by cases h⟩, .cons (.rol hS (hr ns)) .nil, hsp ns hl _ _ fun _ => rfl, fun d M' v H' P' al' e r0 r hd => ?_, fun _ _ _ _ _ _ _ _ _ _ _ _ z => z.elim⟩
  subst hd; cases r; rfl
end L3

namespace L3
open PySem PySem.Spec PyProof.Rows L2
/-! ### fields -/
section
variable {K : PySem.W.Frag} {B B' : Bs} {P P' : Hp} {al al' : List Addr} {M M' : Mt} {env : Ev} {σ : L2.St} {H H' : Hp} {a p : Addr} {d : D} {v : V} {f : Str}
theorem RepFs.length : ∀ {fs : List (Str × D)} {gs : List (Str × V)}, RepFs K P al fs gs → fs.length = gs.length
  | _, _, .nil => rfl
  | _, _, .cons _ t => by simp [RepFs.length t]
theorem RepFs.find : ∀ {fs : List (Str × D)} {gs : List (Str × V)}, RepFs K P al fs gs → fs.lookup f = some d → ∃ v, gs.lookup f = some v ∧ Rep K P al d v
  | _, _, .nil, e => by cases e
  | _, _, .cons (k := k) r t, e => by
    by_cases h : (f == k) = true
    · rw [List.lookup, h] at e; cases e
      exact ⟨_, by rw [List.lookup, h], r⟩
    · have h : (f == k) = false := by simpa using h
      rw [List.lookup, h] at e
      obtain ⟨v, h1, h2⟩ := RepFs.find t e
      exact ⟨v, by rw [List.lookup, h]; exact h1, h2⟩
theorem RepFs.lack : ∀ {fs : List (Str × D)} {gs : List (Str × V)}, RepFs K P al fs gs → fs.lookup f = none → gs.lookup f = none
  | _, _, .nil, _ => rfl
  | _, _, .cons (k := k) r t, e => by
    by_cases h : (f == k) = true
    · rw [List.lookup, h] at e; cases e
    · have h : (f == k) = false := by simpa using h
      rw [List.lookup, h] at e ⊢
      exact RepFs.lack t e
def putFD (f : Str) (d : D) : List (Str × D) → List (Str × D)
  | [] => [(f, d)]
  | (g, x) :: r => if g = f then (g, d) :: r else (g, x) :: putFD f d r
theorem RepFs.put (q : Rep K P al d v) : ∀ {fs : List (Str × D)} {gs : List (Str × V)}, RepFs K P al fs gs → RepFs K P al (putFD f d fs) (putF f v gs)
  | _, _, .nil => .cons q .nil
  | _, _, .cons (k := k) r t => by
    unfold putFD putF
    by_cases h : k = f
    · rw [if_pos h, if_pos h]; exact .cons q t
    · rw [if_neg h, if_neg h]; exact .cons r (RepFs.put q t)
end
section
variable {X : Cx} {B : Bs} {e o value : Expr} {w wo wv : WE} {pos pos' : Pos} {n f : Str} {C : Addr}
/-- e.f, a field of an instance of the class n -/
def wFld (n f : Str) (w : WE) : WE := fun env M R => w env M fun d M1 => match viewD M1 d with
  | .obj n' fs => Need (n' = n) ∧ match fs.lookup f with
    | some v => R v M1
    | none => False
  | _ => False
theorem d_fld (ca : ClsAt X.K n C) (cl : Cls X.K C) (na : NoAttr X.K C f) (he : DE B X e w) (hb : attributeBase e f X.env (eval e X.env) = eval e X.env := by rfl) : DE B X (.Attribute e f pos) (wFld n f w) := by
  refine (pe_fld he hb).imp fun σ H Q => ?_
  rintro ⟨P, al, M, env, R, rs, hw, L⟩
  refine ⟨P, al, M, env, _, rs, hw, fun d M1 v H1 P1 al1 e1 rs1 r1 q => ?_⟩
  split at q
  · rename_i n' fs ev
    obtain ⟨hn, q⟩ := q
    have hn := hn.out
    subst hn
    split at q
    · rename_i v' el
      obtain ⟨a, C', dx, xs, rfl, ha, hc, hf⟩ := view_obj rs1.toRS0 r1 ev
      obtain rfl := ca.one hc
      obtain ⟨y, h1, h2⟩ := hf.find el
      exact ⟨a, C, dx, xs, y, rfl, ha, cl, na, h1, (L.after e1).here rs1 h2 q⟩
    · exact q.elim
  · exact q.elim
/-- o.f = value, o an object that changes -/
@[irreducible] def dsetF (n f : Str) (d o : D) (M2 : Mt) (R : Mt → Prop) : Prop := match o with
  | .cel i => match M2[i]? with
    | some (.obj n' fs) => Need (n' = n ∧ fs.length < 1000) ∧ R (M2.set i (.obj n' (putFD f d fs)))
    | _ => False
  | _ => False
def wSetF (n f : Str) (wo wv : WE) : WS := fun k env M => wv env M fun d M1 => wo env M1 fun o M2 => dsetF n f d o M2 (k.nx env)
theorem d_setF (ca : ClsAt X.K n C) (cl : Cls X.K C) (na : NoAttr X.K C f) (ho : DE B X o wo) (hv : DE B X value wv) (hs : swapsWith value (some (.Attribute o f pos')) pos.line X.env = pure false := by rfl) :
    DS B X (.Assign [.Attribute o f pos'] value pos) (wSetF n f wo wv) := by
  refine (ps_fld ho hv hs).imp fun D σ H => ?_
  rintro ⟨P, al, M, env, k, rs, hw, L⟩
  refine ⟨P, al, M, env, _, rs, hw, fun d M1 v H1 P1 al1 e1 rs1 r1 hw1 => ⟨P1, al1, M1, env, _, rs1, hw1, fun d2 M2 v2 H2 P2 al2 e2 rs2 r2 q => ?_⟩⟩
  unfold dsetF at q
  split at q
  · rename_i i
    split at q
    · rename_i n' fs hm
      obtain ⟨hn, q⟩ := q
      obtain ⟨hn, hl⟩ := hn.out
      subst hn
      obtain ⟨a, rfl, ha, np, C', dx, gs, h1, hc, h2⟩ := cell_at rs2.toRS0 hm r2
      obtain rfl := ca.one hc
      obtain ⟨e3, r3⟩ := rs2.toRS0.change (o' := .ins C dx (putF f v gs)) (m' := .obj n' (putFD f d fs)) ha hm rfl fun H' hH => ⟨np, C, dx, _, hH, hc, h2.put (r1.mono e2.pp e2.pre)⟩
      exact ⟨a, C, dx, gs, rfl, h1, cl, na, by rw [← h2.length]; exact hl, L.nx _ _ _ _ _ _ ((e1.trans e2).trans e3) (rs2.step e3 r3) q⟩
    · exact q.elim
  · exact q.elim
end
/-! ### what may be raised -/
abbrev RXe := Str → List (Str × D) → Ev → Mt → Prop
/-- the wish of an exception, over data -/
def WL (K : PySem.W.Frag) (B : Bs) (RX : RXe) : WX := fun cls d σ H => ∃ C n fs env P al M, cls = .ref C ∧ ClsAt K n C ∧ RS K B P al M env σ H ∧ XdOk K P al H fs d ∧ RX n fs env M
/-- calls of defs: with what may be raised -/
def wCallX (sp : DSp) (dds : List D) (RX : RXe) (was : WA) : WE := fun env M R => was env M fun ds M1 => sp (ds ++ dds) M1 R fun n fs M' => RX n fs env M'
section
variable {X : Cx} {B : Bs} {k : Nat} {f : Addr} {fd : FuncData} {ps : List Str} {sp : DSp} {dvs : List V} {dds : List D} {ds : List Value} {x : Str} {p pos apos : Pos} {e o : Expr} {es : List Expr} {was : WA} {wo : WE} {RX : RXe}
/-- a callee's promise, asked at a state -/
theorem sp_at {K : PySem.W.Frag} {P : Hp} {al : List Addr} {M : Mt} {env : Ev} {σ : L2.St} {H : Hp} {R : D → Mt → Prop} {Q : VK} {ds : List D} {vs : List V} (rs : RS K B P al M env σ H) (r : Reps K P al ds vs) (L : Lift K B P al env σ H R Q)
    (h : sp ds M R fun n fs M' => RX n fs env M') : toSp K sp vs H Q (L2.WE (WL K B RX) σ) :=
  ⟨P, al, M, ds, R, _, rs.toRS0.here, r, h, fun d M' v H' P' al' e r0 r q => L _ _ _ _ _ _ e (rs.step e (r0.rebase (rs.base.trans e))) r q,
    fun C n fs M' H' P' al' dd e r0 c xd q => ⟨C, n, fs, env, P', al', M', rfl, c, rs.step e (r0.rebase (rs.base.trans e)), xd, q⟩⟩
theorem d_callX (F : FnOk X.prog X.w X.K X.mg X.base (L2.CX X.prog X.w) k f fd ps (toSp X.K sp)) (hr : Room k X.A) (tk : Takes X (WL X.K B RX)) (hg : Gl X x) (hm : X.mg x = some (.ref f)) (hk : PySem.W.keepIn X.K (.ref f) = true) (hb : Binds X.K fd ps ds) (hd : Vals dvs ds) (hdd : ∀ P al, Reps X.K P al dds dvs) (ha : DA B X (e :: es) was)
    (hdb : (x == ("__debug__" : Str)) = false := by decide) (he : starEach (e :: es) X.env = (false, eval e X.env) :: starEach es X.env := by rfl) (hpl : (backTo pos (starEach es X.env)).any (·.1) = false := by rfl) : DE B X (.Call (.Name x p) (e :: es) [] pos) (wCallX sp dds RX was) := by
  refine (pe_callSD F hr hg hm hk hb hd (passAt tk) ha hdb he hpl).imp fun σ H Q => ?_
  rintro ⟨P, al, M, env, R, rs, hw, L⟩
  exact ⟨P, al, M, env, _, rs, hw, fun ds M1 vs H1 P1 al1 e1 rs1 r1 q => sp_at rs1 (r1.append (hdd _ _)) (L.after e1) q⟩
end
/-! ### no reference beyond the table -/
section
variable {K : PySem.W.Frag} {P : Hp} {al : List Addr}
mutual
theorem Rep.inside : ∀ {d : D} {v : V}, Rep K P al d v → noCel al.length d = true
  | _, _, .non => rfl
  | _, _, .bl _ => rfl
  | _, _, .int _ => rfl
  | _, _, .str _ => rfl
  | _, _, .ty _ => rfl
  | _, _, .adr _ => rfl
  | _, _, .cls _ => rfl
  | _, _, .tup _ r => by unfold noCel; exact Reps.inside r
  | _, _, .ptp _ r => by unfold noCel; exact Reps.inside r
  | _, _, .lst _ r => by unfold noCel; exact Reps.inside r
  | _, _, .rol _ r => by unfold noCel; exact Reps.inside r
  | _, _, .dct _ r => by unfold noCel; exact RepKs.inside r
  | _, _, .fdc _ r => by unfold noCel; exact RepKs.inside r
  | _, _, .obj _ _ r => by unfold noCel; exact RepFs.inside r
  | _, _, .cel e => by unfold noCel; exact decide_eq_true (List.getElem?_eq_some_iff.mp e).1
theorem Reps.inside : ∀ {ds : List D} {vs : List V}, Reps K P al ds vs → noCels al.length ds = true
  | _, _, .nil => rfl
  | _, _, .cons r t => by unfold noCels; rw [Rep.inside r, Reps.inside t] <;> rfl
theorem RepKs.inside : ∀ {ds : List (Key × D)} {vs : List (Key × V)}, RepKs K P al ds vs → noCelK al.length ds = true
  | _, _, .nil => rfl
  | _, _, .cons r t => by unfold noCelK; rw [Rep.inside r, RepKs.inside t] <;> rfl
theorem RepFs.inside : ∀ {ds : List (Str × D)} {vs : List (Str × V)}, RepFs K P al ds vs → noCelF al.length ds = true
  | _, _, .nil => rfl
  | _, _, .cons r t => by unfold noCelF; rw [Rep.inside r, RepFs.inside t] <;> rfl
end
theorem RS0.inside {B : Bs} {M : Mt} {H : Hp} (r : RS0 K B P al M H) : M.all (cellOk M.length) = true := by
  refine List.all_eq_true.mpr fun m hm => ?_
  obtain ⟨i, hi, e⟩ := List.mem_iff_getElem.mp hm
  have e' : M[i]? = some m := by rw [List.getElem?_eq_getElem hi, e]
  have ha : ∃ a, al[i]? = some a := ⟨_, List.getElem?_eq_getElem (by rw [r.len]; exact hi)⟩
  obtain ⟨a, ha⟩ := ha
  have c := r.cell i a m ha e'
  rw [← r.len]
  cases m <;> first | rfl | skip
  · rename_i l
    have c : ExCell K P al l a := c
    show exOk al.length l = true
    unfold ExCell at c
    unfold exOk
    split
    · obtain ⟨_, _, _, _, _, _, _, h5⟩ := c
      rcases h5 with ⟨_, rfl⟩ | ⟨_, _, _, _, g3⟩
      · rfl
      · exact g3.inside
    · rfl
  · obtain ⟨_, _, _, h⟩ := c; exact h.inside
  · obtain ⟨_, _, _, h⟩ := c; exact h.inside
  · obtain ⟨_, _, _, _, _, _, h⟩ := c; exact h.inside
end
/-! ### making, methods -/
/-- how a callee's exceptions pass -/
def Rz (X : Cx) (B : Bs) (CX : CXT) (RX : RXe) : Prop := ∀ σ, PassesAt CX X σ (L2.WE (WL X.K B RX) σ)
abbrev RXn : RXe := fun _ _ _ _ => False
theorem rz0 {X : Cx} {B : Bs} {RX : RXe} : Rz X B CX0 RX := fun _ _ _ _ _ _ _ h => h.elim
theorem rzX {X : Cx} {B : Bs} {RX : RXe} (tk : Takes X (WL X.K B RX)) : Rz X B (L2.CX X.prog X.w) RX := passAt tk
section
variable {X : Cx} {CX : CXT} {k : Nat} {f C : Addr} {E : XK} {x m : Str} {p pos apos : Pos} {e o : Expr} {es : List Expr}
theorem run_at {sp : Sp} {pins : List (Addr × Obj)} {σ : L2.St} {H : Hp} {s : Shared} {Q : VK} {us : List Value} {vs : List V} (F : FnR X.prog X.w X.K X.mg X.base CX k f sp) (hr : Room k X.A) (hx : PassesAt CX X σ E) (I : Inv X pins σ H s) (r : Vals vs us) (h : sp vs H Q E) :
    codeAny (model X.prog X.w) X.A (.call (.ref f) ⟨us, []⟩) (fun r s' => match r with
      | .ok (.ret v) => EP X pins σ Q v s'
      | .ok _ => False
      | .error e => X.xe e s') s := by
  refine codeAny_mono (F X.A X.stack s H us vs Q E hr I.env0 r h) fun r s' hq => ?_
  match r, hq with
  | .error e, hq => exact hx pins H s e s' I hq
  | .ok (.ret u), hq => exact I.after hq
  | .ok .next, hq => exact hq.elim
  | .ok .brk, hq => exact hq.elim
  | .ok .cont, hq => exact hq.elim
theorem make_at {sp : Sp} {pins : List (Addr × Obj)} {σ : L2.St} {H : Hp} {s : Shared} {Q : VK} {us : List Value} {vs : List V} (M : Mk X.K C f) (F : FnR X.prog X.w X.K X.mg X.base CX k f sp) (hr : Room (k + 1) X.A) (hx : PassesAt CX X σ E) (I : Inv X pins σ H s) (r : Vals vs us)
    (h : ∀ x dx, H x = none → H dx = none → dx ≠ x → sp (V.ref x :: vs) (upd (upd H dx (.own x)) x (.ins C dx [])) (fun v H2 => v = .non ∧ Q (.ref x) H2) E) :
    wpAny (model X.prog X.w) X.A (call (.ref C) us) (EP X pins σ Q) X.xe s := by
  have hq := h (s.heap.objs.size + 1) s.heap.objs.size (I.hok.fresh (Nat.le_succ _))
    (I.hok.fresh (Nat.le_refl _)) (Nat.ne_of_lt (Nat.lt_succ_self _))
  have J := Inv.made (C := C) I
  have r2 : Vals (V.ref (s.heap.objs.size + 1) :: vs)
      (Value.ref (s.heap.objs.size + 1) :: us) := .cons rfl r
  refine wpAny_call (make_map (f := f) I.kIn M.makes M.init (beq_iff_eq.mp M.fn) (codeAny_mono (F _ X.stack _ _ _ _ _ E (hr.make C us []) (J.env0.make C us []) r2 hq) fun r s' hq' => ?_))
  match r, hq' with
  | .error e, hq' => exact hx pins _ _ e s' J hq'
  | .ok (.ret u), hq' =>
    obtain ⟨v, H', I3, rv, ev, q3⟩ := J.after hq'
    subst ev
    exact ⟨rv, V.ref (s.heap.objs.size + 1), H', I3, rfl, q3⟩
  | .ok .next, hq' => exact hq'.elim
  | .ok .brk, hq' => exact hq'.elim
  | .ok .cont, hq' => exact hq'.elim
def tMkA (C : Addr) (sp : Sp) (E : L2.St → XK) (t : TA) : TE := fun σ H Q => t σ H fun vs H1 => ∀ x dx, H1 x = none → H1 dx = none → dx ≠ x →
  sp (V.ref x :: vs) (upd (upd H1 dx (.own x)) x (.ins C dx [])) (fun v H2 => v = .non ∧ Q (.ref x) H2) (E σ)
theorem pe_mkA {sp : Sp} {E : L2.St → XK} {t : TA} (M : Mk X.K C f) (F : FnR X.prog X.w X.K X.mg X.base CX k f sp) (hr : Room (k + 1) X.A) (hx : ∀ σ, PassesAt CX X σ (E σ)) (hg : Gl X x) (hm : X.mg x = some (.ref C)) (ha : PA X (e :: es) t) (hdb : (x == ("__debug__" : Str)) = false := by decide)
    (he : starEach (e :: es) X.env = (false, eval e X.env) :: starEach es X.env := by rfl) (hpl : (backTo pos (starEach es X.env)).any (·.1) = false := by rfl) : PE X (.Call (.Name x p) (e :: es) [] pos) (tMkA C sp E t) :=
  ⟨fun pins s σ H Q I h => wpAny_Call_Name_kw (ld_glob I hg hm (PySem.W.callWith_K (h₀ := X.base) I.ok.mod.kin M.kp (thn (ha.run pos pins s σ H _ I h) fun us s1 ⟨vs, H1, I1, r, q⟩ => ⟨I1.kIn, make_at M F hr (hx σ) I1 r q⟩) he hpl) hdb)⟩
theorem pe_mkA0 {sp : Sp} {E : L2.St → XK} (M : Mk X.K C f) (F : FnR X.prog X.w X.K X.mg X.base CX k f sp) (hr : Room (k + 1) X.A) (hx : ∀ σ, PassesAt CX X σ (E σ)) (hg : Gl X x) (hm : X.mg x = some (.ref C)) (hdb : (x == ("__debug__" : Str)) = false := by decide) :
    PE X (.Call (.Name x p) [] [] pos) (tMkA C sp E tNil) :=
  ⟨fun pins s σ H Q I h => wpAny_Call_Name_kw (ld_glob I hg hm (PySem.W.callWith_K0 I.kIn M.kp (make_at (us := []) M F hr (hx σ) I .nil h)) hdb)⟩
/-- o.m(..) -/
def tMeA (C : Addr) (m : Str) (sp : Sp) (E : L2.St → XK) (ta : TE) (t : TA) : TE := fun σ H Q => ta σ H fun x H1 => ∃ a dx fs, x = .ref a ∧ H1 a = some (.ins C dx fs) ∧ fs.lookup m = none ∧ t σ H1 fun vs H2 => sp (x :: vs) H2 Q (E σ)
theorem pe_meA {sp : Sp} {E : L2.St → XK} {ta : TE} {t : TA} {pl : Sem Bool} (he : PE X o ta) (c : Cls X.K C) (hm : Meth X.K C m f) (F : FnR X.prog X.w X.K X.mg X.base CX k f sp) (hr : Room k X.A) (hx : ∀ σ, PassesAt CX X σ (E σ)) (ha : PA X (e :: es) t)
    (hst : starEach (e :: es) X.env = (false, eval e X.env) :: starEach es X.env := by rfl) (hpl : (backTo pos (starEach es X.env)).any (·.1) = false := by rfl)
    (ht : eval (.Call (.Attribute o m apos) (e :: es) [] pos) X.env = (do
      let ov ← eval o X.env
      standAt apos.atName
      let (f, fst) ← holding [ov] (getMethod ov m pl)
      callWith pos f fst (backTo pos (starEach (e :: es) X.env)) (backToKw pos (keywordEach [] X.env))) := by rfl) : PE X (.Call (.Attribute o m apos) (e :: es) [] pos) (tMeA C m sp E ta t) := by
  refine ⟨fun pins s σ H Q I h => PySem.W.methodCall_KW (pl := pl) (thn (he.run pins s σ H _ I h) fun u s1 ⟨x, H1, I1, rx, a, dx, fs, ex, ea, l, q⟩ => ?_) ht⟩
  subst ex
  cases rx
  exact getmeth_ok I1 ea c hm l (PySem.W.callWith_K (first := [.ref a]) (h₀ := X.base) I.ok.mod.kin hm.kp (thn (ha.run pos pins s1 σ H1 _ I1 q) fun us s2 ⟨vs, H2, I2, r, q2⟩ => ⟨I2.kIn, wpAny_call (run_at (us := .ref a :: us) (vs := .ref a :: vs) F hr (hx σ) I2 (.cons rfl r) q2)⟩) hst hpl)
theorem pe_meA0 {sp : Sp} {E : L2.St → XK} {ta : TE} {pl : Sem Bool} (he : PE X o ta) (c : Cls X.K C) (hm : Meth X.K C m f) (F : FnR X.prog X.w X.K X.mg X.base CX k f sp) (hr : Room k X.A) (hx : ∀ σ, PassesAt CX X σ (E σ))
    (ht : eval (.Call (.Attribute o m apos) [] [] pos) X.env = (do
      let ov ← eval o X.env
      standAt apos.atName
      let (f, fst) ← holding [ov] (getMethod ov m pl)
      callWith pos f fst (backTo pos (starEach [] X.env)) (backToKw pos (keywordEach [] X.env))) := by rfl) : PE X (.Call (.Attribute o m apos) [] [] pos) (tMeA C m sp E ta tNil) := by
  refine ⟨fun pins s σ H Q I h => PySem.W.methodCall_KW (pl := pl) (thn (he.run pins s σ H _ I h) fun u s1 ⟨x, H1, I1, rx, a, dx, fs, ex, ea, l, q⟩ => ?_) ht⟩
  subst ex
  cases rx
  exact getmeth_ok I1 ea c hm l (PySem.W.callWith_K0 (first := [.ref a]) I1.kIn hm.kp (wpAny_call (run_at (us := [.ref a]) (vs := [.ref a]) F hr (hx σ) I1 (.cons rfl .nil) q)))
end
section
variable {X : Cx} {B : Bs} {CX : CXT} {k : Nat} {f C : Addr} {sp : DSp} {n x m : Str} {p pos apos : Pos} {e o : Expr} {es : List Expr} {was : WA} {wo : WE} {RX : RXe}
/-- C(..): the new object, when its table entry alone is new, is published -/
@[irreducible] def mkEnd (M1 : Mt) (R : D → Mt → Prop) (M2 : Mt) : Prop := ∃ n fs, M2 = M1 ++ [.obj n fs] ∧ Need (noCelF M1.length fs = true) ∧ R (.obj n fs) M1
def wMk (n : Str) (sp : DSp) (RX : RXe) (was : WA) : WE := fun env M R => was env M fun ds M1 =>
  sp (.cel M1.length :: ds) (M1 ++ [.obj n []]) (fun d M2 => d = .non ∧ mkEnd M1 R M2) fun n fs M' => RX n fs env M'
/-- C(..): the new object stays in the table -/
def wMkM (n : Str) (sp : DSp) (RX : RXe) (was : WA) : WE := fun env M R => was env M fun ds M1 =>
  sp (.cel M1.length :: ds) (M1 ++ [.obj n []]) (fun d M2 => d = .non ∧ R (.cel M1.length) M2) fun n fs M' => RX n fs env M'
theorem new_obj {K : PySem.W.Frag} {B : Bs} {P : Hp} {al : List Addr} {M : Mt} {H : Hp} {x dx : Addr} (rs : RS0 K B P al M H) (ca : ClsAt K n C) (hx : H x = none) (hd : H dx = none) (ne : dx ≠ x) :
    Ext P al H P (al ++ [x]) (upd (upd H dx (.own x)) x (.ins C dx [])) ∧ RS0 K B P (al ++ [x]) (M ++ [.obj n []]) (upd (upd H dx (.own x)) x (.ins C dx [])) := by
  obtain ⟨b1, b2⟩ := rs.fresh hd
  have r1 := rs.priv (rs.free hd) b2 b1 (.own x)
  obtain ⟨e2, r2⟩ := r1.allocM (p := x) (o := .ins C dx []) (m := .obj n []) (by rw [upd_ne (Ne.symm ne)]; exact hx) fun P' al' _ _ hp H' hH => ⟨hp, C, dx, [], hH, ca, .nil⟩
  exact ⟨((Ext.refl (P := P) (al := al) (H := H)).priv hd (.own x)).trans e2, r2⟩
theorem mk_sp {K : PySem.W.Frag} {P : Hp} {al : List Addr} {M : Mt} {env : Ev} {σ : L2.St} {H : Hp} {R : D → Mt → Prop} {Q : VK} {ds : List D} {vs : List V} {x dx : Addr} (ca : ClsAt K n C) (rs : RS K B P al M env σ H) (r : Reps K P al ds vs) (L : Lift K B P al env σ H R Q)
    (hx : H x = none) (hd : H dx = none) (ne : dx ≠ x) {R' : D → Mt → Prop} (hR : ∀ d M', R' d M' → d = .non ∧ (R (.cel M.length) M' ∨ mkEnd M R M')) (h : sp (.cel M.length :: ds) (M ++ [.obj n []]) R' fun n fs M' => RX n fs env M') :
    toSp K sp (.ref x :: vs) (upd (upd H dx (.own x)) x (.ins C dx [])) (fun v H2 => v = .non ∧ Q (.ref x) H2) (L2.WE (WL K B RX) σ) := by
  obtain ⟨e1, r1⟩ := new_obj rs.toRS0 ca hx hd ne
  have lx : (al ++ [x])[M.length]? = some x := by rw [← rs.len, List.getElem?_append_right (Nat.le_refl _), Nat.sub_self]; rfl
  refine ⟨P, al ++ [x], _, _, _, _, r1.here, .cons (.cel lx) (r.mono e1.pp e1.pre), h, fun d M' v H' P' al' e r0 rd q => ?_, fun C' n' fs M' H' P' al' dd e r0 c xd q => ?_⟩
  · obtain ⟨ed, q'⟩ := hR _ _ q
    subst ed
    have er := e1.trans e
    have r0b := r0.rebase (rs.base.trans er)
    refine ⟨by cases rd; rfl, ?_⟩
    have lx' : al'[M.length]? = some x := pre_get e.pre lx
    simp only [mkEnd] at q'
    rcases q' with q' | ⟨n', fs, rfl, hn, q'⟩
    · exact L _ _ _ _ _ _ er (rs.step er r0b) (.cel lx') q'
    · have hm : (M ++ [D.obj n' fs])[M.length]? = some (.obj n' fs) := by rw [List.getElem?_append_right (Nat.le_refl _), Nat.sub_self]; rfl
      obtain ⟨P2, e2, r2, q2⟩ := r0b.freeze hm rfl (.cel lx')
      have e3 := er.trans e2
      have r3 : RS0 K (P, al, H) P2 al' ((M ++ [D.obj n' fs]).set M.length .non) H' := r2.rebase e3
      have tk : ((M ++ [D.obj n' fs]).set M.length .non).take al.length = M := by
        rw [rs.len, List.set_append_right _ _ (Nat.le_refl _), Nat.sub_self]; simp
      have ins := rs.toRS0.inside
      have r4 := r3.drop fun i m hi hm => by
        have hi' : i < M.length := by rw [← rs.len]; exact hi
        rw [List.set_append_right _ _ (Nat.le_refl _), List.getElem?_append_left hi'] at hm
        rw [rs.len]; exact List.all_eq_true.mp ins m (List.mem_of_getElem? hm)
      rw [tk] at r4
      have e4 : Ext P al H P2 al H' := r4.base
      have nc : noCel al.length (.obj n' fs) = true := by unfold noCel; rw [rs.len]; exact hn.out
      exact L _ _ _ _ _ _ e4 (rs.step e4 (r4.rebase (rs.base.trans e4))) (q2.cut e3.pre nc) q'
  · have er := e1.trans e
    exact ⟨C', n', fs, env, P', al', M', rfl, c, rs.step er (r0.rebase (rs.base.trans er)), xd, q⟩
theorem d_mk (ca : ClsAt X.K n C) (Mc : Mk X.K C f) (F : FnR X.prog X.w X.K X.mg X.base CX k f (toSp X.K sp)) (hr : Room (k + 1) X.A) (hx : Rz X B CX RX) (hg : Gl X x) (hm : X.mg x = some (.ref C)) (ha : DA B X (e :: es) was) (hdb : (x == ("__debug__" : Str)) = false := by decide)
    (he : starEach (e :: es) X.env = (false, eval e X.env) :: starEach es X.env := by rfl) (hpl : (backTo pos (starEach es X.env)).any (·.1) = false := by rfl) : DE B X (.Call (.Name x p) (e :: es) [] pos) (wMk n sp RX was) := by
  refine (pe_mkA Mc F hr hx hg hm ha hdb he hpl).imp fun σ H Q => ?_
  rintro ⟨P, al, M, env, R, rs, hw, L⟩
  exact ⟨P, al, M, env, _, rs, hw, fun ds M1 vs H1 P1 al1 e1 rs1 r1 q x dx hx hd ne => mk_sp ca rs1 r1 (L.after e1) hx hd ne (fun _ _ h => ⟨h.1, .inr h.2⟩) q⟩
theorem d_mk0 (ca : ClsAt X.K n C) (Mc : Mk X.K C f) (F : FnR X.prog X.w X.K X.mg X.base CX k f (toSp X.K sp)) (hr : Room (k + 1) X.A) (hx : Rz X B CX RX) (hg : Gl X x) (hm : X.mg x = some (.ref C)) (hdb : (x == ("__debug__" : Str)) = false := by decide) :
    DE B X (.Call (.Name x p) [] [] pos) (wMk n sp RX wNil) := by
  refine (pe_mkA0 Mc F hr hx hg hm hdb).imp fun σ H Q => ?_
  rintro ⟨P, al, M, env, R, rs, hw, L⟩
  exact fun x dx hx hd ne => mk_sp ca rs .nil L hx hd ne (fun _ _ h => ⟨h.1, .inr h.2⟩) hw
/-- o.m(..) -/
def wMeth (n m : Str) (sp : DSp) (RX : RXe) (wo : WE) (was : WA) : WE := fun env M R => wo env M fun o M1 => match viewD M1 o with
  | .obj n' fs => Need (n' = n ∧ fs.lookup m = none) ∧ was env M1 fun ds M2 => sp (o :: ds) M2 R fun n fs M' => RX n fs env M'
  | _ => False
theorem d_meth {pl : Sem Bool} (ca : ClsAt X.K n C) (cl : Cls X.K C) (hm : Meth X.K C m f) (F : FnR X.prog X.w X.K X.mg X.base CX k f (toSp X.K sp)) (hr : Room k X.A) (hx : Rz X B CX RX) (ho : DE B X o wo) (ha : DA B X (e :: es) was)
    (hst : starEach (e :: es) X.env = (false, eval e X.env) :: starEach es X.env := by rfl) (hpl : (backTo pos (starEach es X.env)).any (·.1) = false := by rfl)
    (ht : eval (.Call (.Attribute o m apos) (e :: es) [] pos) X.env = (do
      let ov ← eval o X.env
      standAt apos.atName
      let (f, fst) ← holding [ov] (getMethod ov m pl)
      callWith pos f fst (backTo pos (starEach (e :: es) X.env)) (backToKw pos (keywordEach [] X.env))) := by rfl) : DE B X (.Call (.Attribute o m apos) (e :: es) [] pos) (wMeth n m sp RX wo was) := by
  refine (pe_meA ho cl hm F hr hx ha hst hpl ht).imp fun σ H Q => ?_
  rintro ⟨P, al, M, env, R, rs, hw, L⟩
  refine ⟨P, al, M, env, _, rs, hw, fun d M1 v H1 P1 al1 e1 rs1 r1 q => ?_⟩
  split at q
  · rename_i n' fs ev
    obtain ⟨hn, q⟩ := q
    obtain ⟨hn, hl⟩ := hn.out
    subst hn
    obtain ⟨a, C', dx, xs, rfl, ha, hc, hf⟩ := view_obj rs1.toRS0 r1 ev
    obtain rfl := ca.one hc
    exact ⟨a, dx, xs, rfl, ha, hf.lack hl, P1, al1, M1, env, _, rs1, q, fun ds M2 vs H2 P2 al2 e2 rs2 r2 q2 => sp_at rs2 (.cons (r1.mono e2.pp e2.pre) r2) (L.after (e1.trans e2)) q2⟩
  · exact q.elim
theorem d_meth0 {pl : Sem Bool} (ca : ClsAt X.K n C) (cl : Cls X.K C) (hm : Meth X.K C m f) (F : FnR X.prog X.w X.K X.mg X.base CX k f (toSp X.K sp)) (hr : Room k X.A) (hx : Rz X B CX RX) (ho : DE B X o wo)
    (ht : eval (.Call (.Attribute o m apos) [] [] pos) X.env = (do
      let ov ← eval o X.env
      standAt apos.atName
      let (f, fst) ← holding [ov] (getMethod ov m pl)
      callWith pos f fst (backTo pos (starEach [] X.env)) (backToKw pos (keywordEach [] X.env))) := by rfl) : DE B X (.Call (.Attribute o m apos) [] [] pos) (wMeth n m sp RX wo wNil) := by
  refine (pe_meA0 ho cl hm F hr hx ht).imp fun σ H Q => ?_
  rintro ⟨P, al, M, env, R, rs, hw, L⟩
  refine ⟨P, al, M, env, _, rs, hw, fun d M1 v H1 P1 al1 e1 rs1 r1 q => ?_⟩
  split at q
  · rename_i n' fs ev
    obtain ⟨hn, q⟩ := q
    obtain ⟨hn, hl⟩ := hn.out
    subst hn
    obtain ⟨a, C', dx, xs, rfl, ha, hc, hf⟩ := view_obj rs1.toRS0 r1 ev
    obtain rfl := ca.one hc
    exact ⟨a, dx, xs, rfl, ha, hf.lack hl, sp_at rs1 (.cons r1 .nil) (L.after e1) q⟩
  · exact q.elim
end
end L3

namespace L3
open PySem PySem.Spec PyProof.Rows L2
/-! ### defs that may raise -/
section
variable {K : PySem.W.Frag} {B : Bs} {P P' : Hp} {al al' : List Addr} {M : Mt} {H H' : Hp} {fs : List (Str × D)} {dd : Option Addr}
theorem XdOk.cut (x : XdOk K P al' H fs dd) (h : al <+: al') (n : noCelF al.length fs = true) : XdOk K P al H fs dd := by
  rcases x with x | ⟨d, gs, h1, h2, h3, h4⟩
  · exact .inl x
  · exact .inr ⟨d, gs, h1, fun z => h2 (h.subset z), h3, h4.cutA h n⟩
theorem XdOk.go (x : XdOk K P al H fs dd) (e : Ext P al H P' al' H') : XdOk K P' al' H' fs dd := by
  rcases x with x | ⟨d, gs, h1, h2, h3, h4⟩
  · exact .inl x
  · refine .inr ⟨d, gs, h1, fun z => ?_, e.fr _ _ h3 h2, h4.mono e.pp e.pre⟩
    have := e.new d z h2
    rw [h3] at this; cases this
end
inductive rxF (n : Nat) (RX : RXt) (nm : Str) (fs : List (Str × D)) (M : Mt) : Prop where
  | keep : RX nm fs M → rxF n RX nm fs M
  | less : noCelF n fs = true → (M.take n).all (cellOk n) = true → RX nm fs (M.take n) → rxF n RX nm fs M
section
variable {P : Program} {w : World} {K : PySem.W.Frag} {mg : Str → Option Value} {base : Heap}
theorem dfnX {x qual : Str} {st : Stmt} {f : Addr} {fd : FuncData} {N ps : List Str} {k : Nat} {sp : DSp} (F : Fun K x qual st f fd) (S : FnScope N ps (defScope st)) (len : ∀ ds M R RX, sp ds M R RX → ds.length = ps.length)
    (body : ∀ (B : Bs) (cdv : Value) (A : Around) (outer : List Env) (s : Shared) (H : Hp) (E : XK), Room k (A.deeper (envOfC qual (defScope st) s.heap.objs.size f cdv)) →
      ∃ wb : RXe → WS, (∀ RX : RXe, Takes (cxOf (L2.CX P w) P w K mg base N qual (defScope st) f cdv A outer s H E) (WL K B RX) → DSs B (cxOf (L2.CX P w) P w K mg base N qual (defScope st) f cdv A outer s H E) (defBody st) (wb RX)) ∧
        ∀ ds M R RX, sp ds M R RX → M.all (cellOk M.length) = true → noCels M.length ds = true → wb (fun nm fs _ M' => rxF M.length RX nm fs M') (fnEnds M.length R) (startE N.length ds) M) :
    FnOk P w K mg base (L2.CX P w) (k + 1) f fd ps (toSp K sp) := by
  refine F.okX S (fun vs H Q E h => ?_) (fun cdv A outer s H vs Q E hr h => ?_)
  · obtain ⟨P, al, M, ds, R, RX, _, r, hs, _⟩ := h
    rw [← r.length]; exact len _ _ _ _ hs
  · obtain ⟨Pp, al, M, ds, R, RX, r0, r, hs, L, LX⟩ := h
    obtain ⟨wb, hb, hw⟩ := body (Pp, al, H) cdv A outer s H E hr
    have el := r0.len
    have fin : ∀ d M' v H' P' al', Ext Pp al H P' al' H' → RS0 K (Pp, al, H) P' al' M' H' → Rep K P' al' d v → retF M.length R d M' → Q v H' := fun d M' v H' P' al' e r' rd q => by
      cases q with
      | keep q => exact L d M' v H' P' al' e r' rd q
      | less q1 q2 q3 =>
        rw [← el] at q1 q2 q3
        refine L d _ v H' P' al ⟨e.pp, List.prefix_refl _, e.fr, fun b m n => absurd m n, e.pn⟩ (r'.drop fun i m hi hm => ?_) (rd.cut e.pre q1) q3
        exact List.all_eq_true.mp q2 m (List.mem_of_getElem? (by rw [List.getElem?_take_of_lt hi]; exact hm))
    have finX : ∀ C nm fs M' H' P' al' dd, Ext Pp al H P' al' H' → RS0 K (Pp, al, H) P' al' M' H' → ClsAt K nm C → XdOk K P' al' H' fs dd → rxF M.length RX nm fs M' → E (.ref C) dd H' := fun C nm fs M' H' P' al' dd e r' c xd q => by
      cases q with
      | keep q => exact LX C nm fs M' H' P' al' dd e r' c xd q
      | less q1 q2 q3 =>
        rw [← el] at q1 q2 q3
        refine LX C nm fs _ H' P' al dd ⟨e.pp, List.prefix_refl _, e.fr, fun b m n => absurd m n, e.pn⟩ (r'.drop fun i m hi hm => ?_) c (xd.cut e.pre q1) q3
        exact List.all_eq_true.mp q2 m (List.mem_of_getElem? (by rw [List.getElem?_take_of_lt hi]; exact hm))
    obtain ⟨s1, s2⟩ := start_slots (N := N) r
    refine ⟨_, hb _ ((takes_of rfl rfl rfl rfl).imp fun c d σ H' h => ?_), Pp, al, M, _, _, ⟨r0, s1, s2⟩, hw ds M R RX hs r0.inside (by rw [← el]; exact r.inside), ⟨fun env' M' σ' H' P' al' e rs q => fin _ _ _ _ _ _ e rs.toRS0 .non q, fun d M' v H' P' al' e rs rd q => fin _ _ _ _ _ _ e rs rd q, fun _ _ _ _ _ _ _ _ z => z.elim, fun _ _ _ _ _ _ _ _ z => z.elim⟩⟩
    obtain ⟨C, nm, fs, env, P', al', M', rfl, c, rs, xd, q⟩ := h
    exact finX C nm fs M' H' P' al' d rs.base rs.toRS0 c xd q
/-- as dfn; its table is known to be in order -/
theorem dfn2 {x qual : Str} {st : Stmt} {f : Addr} {fd : FuncData} {N ps : List Str} {k : Nat} {sp : DSp} (F : Fun K x qual st f fd) (S : FnScope N ps (defScope st)) (len : ∀ ds M R RX, sp ds M R RX → ds.length = ps.length)
    (body : ∀ (B : Bs) (cdv : Value) (A : Around) (outer : List Env) (s : Shared) (H : Hp) (E : XK), Room k (A.deeper (envOfC qual (defScope st) s.heap.objs.size f cdv)) →
      ∃ wb : WS, DSs B (cxOf CX0 P w K mg base N qual (defScope st) f cdv A outer s H E).nox (defBody st) wb ∧ ∀ ds M R RX, sp ds M R RX → M.all (cellOk M.length) = true → noCels M.length ds = true → wb (fnEnds M.length R) (startE N.length ds) M) :
    FnOk P w K mg base CX0 (k + 1) f fd ps (toSp K sp) := by
  refine F.ok S (fun vs H Q E h => ?_) (fun cdv A outer s H vs Q E hr h => ?_)
  · obtain ⟨P, al, M, ds, R, RX, _, r, hs, _⟩ := h
    rw [← r.length]; exact len _ _ _ _ hs
  · obtain ⟨Pp, al, M, ds, R, RX, r0, r, hs, L, _⟩ := h
    obtain ⟨wb, hb, hw⟩ := body (Pp, al, H) cdv A outer s H E hr
    have el := r0.len
    have fin : ∀ d M' v H' P' al', Ext Pp al H P' al' H' → RS0 K (Pp, al, H) P' al' M' H' → Rep K P' al' d v → retF M.length R d M' → Q v H' := fun d M' v H' P' al' e r' rd q => by
      cases q with
      | keep q => exact L d M' v H' P' al' e r' rd q
      | less q1 q2 q3 =>
        rw [← el] at q1 q2 q3
        refine L d _ v H' P' al ⟨e.pp, List.prefix_refl _, e.fr, fun b m n => absurd m n, e.pn⟩ (r'.drop fun i m hi hm => ?_) (rd.cut e.pre q1) q3
        exact List.all_eq_true.mp q2 m (List.mem_of_getElem? (by rw [List.getElem?_take_of_lt hi]; exact hm))
    obtain ⟨s1, s2⟩ := start_slots (N := N) r
    exact ⟨_, hb, Pp, al, M, _, _, ⟨r0, s1, s2⟩, hw ds M R RX hs r0.inside (by rw [← el]; exact r.inside), ⟨fun env' M' σ' H' P' al' e rs q => fin _ _ _ _ _ _ e rs.toRS0 .non q, fun d M' v H' P' al' e rs rd q => fin _ _ _ _ _ _ e rs rd q, fun _ _ _ _ _ _ _ _ z => z.elim, fun _ _ _ _ _ _ _ _ z => z.elim⟩⟩
end
/-! ### own errors: their __init__ keeps what it is given -/
/-- __init__ keeps ws under the names ns -/
def spI (C : Addr) (ns : List Str) : Sp := fun vs H Q _ => ∃ a ws, vs = .ref a :: ws ∧ ws.length = ns.length ∧ H a = some (exo a C none) ∧
  ∀ d, H d = none → d ≠ a → ∀ H', H' a = some (exo a C (some d)) → H' d = some (exd d (ns.zip ws).reverse) → (∀ b, b ≠ a → b ≠ d → H' b = H b) → Q .non H'
section
variable {X : Cx} {C fI : Addr} {k : Nat} {fd : FuncData} {x : Str} {p pos : Pos} {e : Expr} {es : List Expr} {ta : TA} {ps ns : List Str}
theorem spI_len (vs : List V) (H : Hp) (Q : VK) (E : XK) (h : spI C ns vs H Q E) : vs.length = ns.length + 1 := by
  obtain ⟨a, ws, rfl, h, _⟩ := h
  simp [h]
end
section
variable {X : Cx} {B : Bs} {C fI : Addr} {k : Nat} {fd : FuncData} {n x : Str} {p pos pos2 : Pos} {e : Expr} {es : List Expr} {was : WA} {ps ns : List Str} {RX : RXe}
theorem del_eq {H1 H' : Hp} {a d : Addr} {u v w : HO} (ha : H1 a = none) (hne : d ≠ a) (h : ∀ b, b ≠ a → b ≠ d → H' b = upd H1 a u b) : upd (del H' a) d v = upd H1 d v := by
  funext b
  by_cases h1 : b = d
  · rw [h1, upd_same, upd_same]
  · rw [upd_ne h1, upd_ne h1]
    by_cases h2 : b = a
    · rw [h2, del_same, ha]
    · rw [del_ne h2, h b h2 h1, upd_ne h2]
theorem zip_fs {K : PySem.W.Frag} {P : Hp} {al : List Addr} : ∀ {ns : List Str} {ds : List D} {vs : List V}, Reps K P al ds vs → RepFs K P al (ns.zip ds) (ns.zip vs)
  | [], _, _, _ => .nil
  | _ :: _, _, _, .nil => .nil
  | _ :: _, _, _, .cons r t => .cons r (zip_fs t)
theorem RepFs.app {K : PySem.W.Frag} {P : Hp} {al : List Addr} : ∀ {fs gs : List (Str × D)} {vs ws : List (Str × V)}, RepFs K P al fs vs → RepFs K P al gs ws → RepFs K P al (fs ++ gs) (vs ++ ws)
  | _, _, _, _, .nil, s => s
  | _, _, _, _, .cons r t, s => .cons r (RepFs.app t s)
theorem RepFs.rev {K : PySem.W.Frag} {P : Hp} {al : List Addr} : ∀ {fs : List (Str × D)} {vs : List (Str × V)}, RepFs K P al fs vs → RepFs K P al fs.reverse vs.reverse
  | _, _, .nil => .nil
  | _, _, .cons r t => by rw [List.reverse_cons, List.reverse_cons]; exact (RepFs.rev t).app (.cons r .nil)
/-- an error's dict, new -/
theorem xd_new {K : PySem.W.Frag} {B : Bs} {P : Hp} {al : List Addr} {M : Mt} {env : Ev} {σ : L2.St} {H : Hp} {d : Addr} {fs : List (Str × D)} {gs : List (Str × V)} (rs : RS K B P al M env σ H) (hd : H d = none) (r : RepFs K P al fs gs) :
    RS K B P al M env σ (upd H d (.xd gs)) ∧ XdOk K P al (upd H d (.xd gs)) fs (some d) := by
  obtain ⟨b1, b2⟩ := rs.toRS0.fresh hd
  exact ⟨⟨rs.toRS0.priv (rs.toRS0.free hd) b2 b1 _, rs.slen, rs.slot⟩, .inr ⟨d, gs, rfl, b2, upd_same, r⟩⟩
/-- raise C(e, ..), an own error with an __init__ -/
def wRaise (n : Str) (ns : List Str) (RX : RXe) (was : WA) : WS := fun _ env M => was env M fun ds M1 => Need (ds.length = ns.length) ∧ RX n (ns.zip ds).reverse env M1
theorem d_raise (hc : X.calm = true) (tk : Takes X (WL X.K B RX)) (ca : ClsAt X.K n C) (T : OexC X.K C) (iC : PySem.W.findIn X.K (.ref C) "__init__" = some (some (.ref fI))) (tI : PySem.W.typeIn X.K (.ref fI) = some (.type "function"))
    (F1 : FnOk X.prog X.w X.K X.mg X.base CX0 k fI fd ps (spI C ns)) (hn : ns.length ≤ 900) (hr : Room (k + 1) X.A) (hb : Binds X.K fd ps []) (hg : Gl X x) (hm : X.mg x = some (.ref C)) (ha : DA B X (e :: es) was)
    (hdb : (x == ("__debug__" : Str)) = false := by decide) (he : starEach (e :: es) X.env = (false, eval e X.env) :: starEach es X.env := by rfl) (hpl : (backTo pos (starEach es X.env)).any (·.1) = false := by rfl) :
    DS B X (.Raise (some (.Call (.Name x p) (e :: es) [] pos)) none pos2) (wRaise n ns RX was) := by
  refine (ps_raise hc tk (pmk_oex T iC tI F1 hr hb .nil (fun _ _ _ _ _ _ _ z => z.elim) hg hm ha hdb he hpl)).imp fun D σ H => ?_
  rintro ⟨P, al, M, env, k, rs, hw, L⟩
  refine ⟨P, al, M, env, _, rs, hw, fun ds M1 vs H1 P1 al1 e1 rs1 r1 q => ?_⟩
  obtain ⟨hl, q⟩ := q
  have hl : vs.length = ns.length := by rw [← r1.length]; exact hl.out
  refine ⟨by omega, fun a hna => ⟨a, vs ++ [], rfl, by simpa using hl, upd_same, fun d hd hne H' h1 h2 h3 => ?_⟩⟩
  rw [List.append_nil] at h2
  have hd' : H1 d = none := by rw [upd_ne hne] at hd; exact hd
  obtain ⟨rs2, xd⟩ := xd_new rs1 hd' (zip_fs (ns := ns) r1).rev
  refine ⟨rfl, d, _, h1, h2, hd', ?_⟩
  rw [del_eq (w := .own a) hna hne h3]
  exact ⟨C, n, _, env, P1, al1, M1, rfl, ca, rs2, xd, q⟩
end
/-! ### the bodies of such an __init__ -/
section
variable {P : Program} {w : World} {K : PySem.W.Frag} {mg : Str → Option Value} {base : Heap} {C : Addr}
theorem init_1 {x qual : Str} {st : Stmt} {f : Addr} {fd : FuncData} {s a f1 : Str} {q1 q2 q3 q4 : Pos} (F : Fun K x qual st f fd) (S : FnScope [s, a] [s, a] (defScope st)) (hbody : defBody st = [.Assign [.Attribute (.Name s q1) f1 q2] (.Name a q3) q4])
    (T : OexC K C) (h1 : PySem.W.findIn K (.ref C) f1 = some none) (l1 : (defScope st).names.lookup s = some .local) (l2 : (defScope st).names.lookup a = some .local)
    (d1 : (s == ("__debug__" : Str)) = false := by decide) (d2 : (a == ("__debug__" : Str)) = false := by decide) (hc1 : (s == ("__classdict__" : Str)) = false := by decide) (hc2 : (a == ("__classdict__" : Str)) = false := by decide)
    (hsw : ∀ (env : Env), swapsWith (.Name a q3) (some (.Attribute (.Name s q1) f1 q2)) q4.line env = pure false := by intro _; rfl) : FnOk P w K mg base CX0 1 f fd [s, a] (spI C [f1]) := by
  refine F.ok S (fun vs H Q E h => spI_len (C := C) (ns := [f1]) vs H Q E h) fun cdv A outer s0 H vs Q E hr h => ?_
  rw [hbody]
  refine ⟨_, pss_one (ps_ost (pe_var (i := 0) rfl (.inl l1) d1 hc1) (pe_var (i := 1) rfl (.inl l2) d2 hc2) (hsw _)), ?_⟩
  obtain ⟨o, ws, rfl, hl, ho, q⟩ := h
  obtain ⟨y, rfl⟩ : ∃ y, ws = [y] := by
    cases ws with
    | nil => cases hl
    | cons y r => cases r with
      | nil => exact ⟨y, rfl⟩
      | cons _ _ => cases hl
  exact ⟨y, rfl, .ref o, rfl, o, C, rfl, T, h1, .inl ⟨ho, fun dx hdx hne => q dx hdx hne _ upd_same (by rw [upd_ne hne, upd_same]; rfl) fun b h1 h2 => by rw [upd_ne h1, upd_ne h2]⟩⟩
theorem init_2 {x qual : Str} {st : Stmt} {f : Addr} {fd : FuncData} {s a b f1 f2 : Str} {q1 q2 q3 q4 r1 r2 r3 r4 : Pos} (F : Fun K x qual st f fd) (S : FnScope [s, a, b] [s, a, b] (defScope st))
    (hbody : defBody st = [.Assign [.Attribute (.Name s q1) f1 q2] (.Name a q3) q4, .Assign [.Attribute (.Name s r1) f2 r2] (.Name b r3) r4])
    (T : OexC K C) (h1 : PySem.W.findIn K (.ref C) f1 = some none) (h2 : PySem.W.findIn K (.ref C) f2 = some none) (l1 : (defScope st).names.lookup s = some .local) (l2 : (defScope st).names.lookup a = some .local) (l3 : (defScope st).names.lookup b = some .local)
    (d1 : (s == ("__debug__" : Str)) = false := by decide) (d2 : (a == ("__debug__" : Str)) = false := by decide) (d3 : (b == ("__debug__" : Str)) = false := by decide) (hc1 : (s == ("__classdict__" : Str)) = false := by decide) (hc2 : (a == ("__classdict__" : Str)) = false := by decide) (hc3 : (b == ("__classdict__" : Str)) = false := by decide)
    (hsw : ∀ (y o g : Str) (p1 p2 p3 p4 : Pos) (env : Env), swapsWith (.Name y p3) (some (.Attribute (.Name o p1) g p2)) p4.line env = pure false := by intros; rfl) : FnOk P w K mg base CX0 1 f fd [s, a, b] (spI C [f1, f2]) := by
  refine F.ok S (fun vs H Q E h => spI_len (C := C) (ns := [f1, f2]) vs H Q E h) fun cdv A outer s0 H vs Q E hr h => ?_
  rw [hbody]
  refine ⟨_, pss_cons (ps_ost (pe_var (i := 0) rfl (.inl l1) d1 hc1) (pe_var (i := 1) rfl (.inl l2) d2 hc2) (hsw ..)) (pss_one (ps_ost (pe_var (i := 0) rfl (.inl l1) d1 hc1) (pe_var (i := 2) rfl (.inl l3) d3 hc3) (hsw ..))), ?_⟩
  obtain ⟨o, ws, rfl, hl, ho, q⟩ := h
  obtain ⟨y, z, rfl⟩ : ∃ y z, ws = [y, z] := by
    match ws, hl with
    | [y, z], _ => exact ⟨y, z, rfl⟩
  refine ⟨y, rfl, .ref o, rfl, o, C, rfl, T, h1, .inl ⟨ho, fun dx hdx hne => ?_⟩⟩
  refine ⟨z, rfl, .ref o, rfl, o, C, rfl, T, h2, .inr ⟨dx, _, upd_same, by rw [upd_ne hne, upd_same], Nat.le_of_ble_eq_true rfl, ?_⟩⟩
  exact q dx hdx hne _ (by rw [upd_ne (Ne.symm hne), upd_same]) upd_same fun b h1 h2 => by rw [upd_ne h2, upd_ne h1, upd_ne h2]
theorem init_3 {x qual : Str} {st : Stmt} {f : Addr} {fd : FuncData} {s a b c f1 f2 f3 : Str} {q1 q2 q3 q4 r1 r2 r3 r4 u1 u2 u3 u4 : Pos} (F : Fun K x qual st f fd) (S : FnScope [s, a, b, c] [s, a, b, c] (defScope st))
    (hbody : defBody st = [.Assign [.Attribute (.Name s q1) f1 q2] (.Name a q3) q4, .Assign [.Attribute (.Name s r1) f2 r2] (.Name b r3) r4, .Assign [.Attribute (.Name s u1) f3 u2] (.Name c u3) u4])
    (T : OexC K C) (h1 : PySem.W.findIn K (.ref C) f1 = some none) (h2 : PySem.W.findIn K (.ref C) f2 = some none) (h3 : PySem.W.findIn K (.ref C) f3 = some none)
    (l1 : (defScope st).names.lookup s = some .local) (l2 : (defScope st).names.lookup a = some .local) (l3 : (defScope st).names.lookup b = some .local) (l4 : (defScope st).names.lookup c = some .local)
    (d1 : (s == ("__debug__" : Str)) = false := by decide) (d2 : (a == ("__debug__" : Str)) = false := by decide) (d3 : (b == ("__debug__" : Str)) = false := by decide) (d4 : (c == ("__debug__" : Str)) = false := by decide)
    (hc1 : (s == ("__classdict__" : Str)) = false := by decide) (hc2 : (a == ("__classdict__" : Str)) = false := by decide) (hc3 : (b == ("__classdict__" : Str)) = false := by decide) (hc4 : (c == ("__classdict__" : Str)) = false := by decide)
    (hsw : ∀ (y o g : Str) (p1 p2 p3 p4 : Pos) (env : Env), swapsWith (.Name y p3) (some (.Attribute (.Name o p1) g p2)) p4.line env = pure false := by intros; rfl) : FnOk P w K mg base CX0 1 f fd [s, a, b, c] (spI C [f1, f2, f3]) := by
  refine F.ok S (fun vs H Q E h => spI_len (C := C) (ns := [f1, f2, f3]) vs H Q E h) fun cdv A outer s0 H vs Q E hr h => ?_
  rw [hbody]
  refine ⟨_, pss_cons (ps_ost (pe_var (i := 0) rfl (.inl l1) d1 hc1) (pe_var (i := 1) rfl (.inl l2) d2 hc2) (hsw ..)) (pss_cons (ps_ost (pe_var (i := 0) rfl (.inl l1) d1 hc1) (pe_var (i := 2) rfl (.inl l3) d3 hc3) (hsw ..)) (pss_one (ps_ost (pe_var (i := 0) rfl (.inl l1) d1 hc1) (pe_var (i := 3) rfl (.inl l4) d4 hc4) (hsw ..)))), ?_⟩
  obtain ⟨o, ws, rfl, hl, ho, q⟩ := h
  obtain ⟨y, z, v, rfl⟩ : ∃ y z v, ws = [y, z, v] := by
    match ws, hl with
    | [y, z, v], _ => exact ⟨y, z, v, rfl⟩
  refine ⟨y, rfl, .ref o, rfl, o, C, rfl, T, h1, .inl ⟨ho, fun dx hdx hne => ?_⟩⟩
  refine ⟨z, rfl, .ref o, rfl, o, C, rfl, T, h2, .inr ⟨dx, _, upd_same, by rw [upd_ne hne, upd_same], Nat.le_of_ble_eq_true rfl, ?_⟩⟩
  refine ⟨v, rfl, .ref o, rfl, o, C, rfl, T, h3, .inr ⟨dx, _, by rw [upd_ne (Ne.symm hne), upd_same], upd_same, Nat.le_of_ble_eq_true rfl, ?_⟩⟩
  exact q dx hdx hne _ (by rw [upd_ne (Ne.symm hne), upd_ne (Ne.symm hne), upd_same]) upd_same fun b h1 h2 => by rw [upd_ne h2, upd_ne h2, upd_ne h1, upd_ne h2]
end
/-! ### try .. except n as x -/
theorem RS.drp {K : PySem.W.Frag} {B : Bs} {P : Hp} {al : List Addr} {M : Mt} {env : Ev} {σ : L2.St} {H : Hp} (r : RS K B P al M env σ H) (i : Nat) : RS K B P al M (env.set i none) (σ.set i none) H := by
  refine ⟨r.toRS0, by simp [r.slen], fun j d h => ?_⟩
  by_cases hj : j = i
  · subst hj
    have hl : j < (env.set j none).length := (List.getElem?_eq_some_iff.mp h).1
    rw [List.getElem?_set_self (by simpa using hl)] at h; cases h
  · rw [List.getElem?_set_ne (Ne.symm hj)] at h
    obtain ⟨v, h1, h2⟩ := r.slot j d h
    exact ⟨v, by rw [List.getElem?_set_ne (Ne.symm hj)]; exact h1, h2⟩
def outE (i : Nat) (k : DEnds) : DEnds := ⟨fun e m => k.nx (e.set i none) m, k.rt, fun e m => k.bk (e.set i none) m, fun e m => k.ct (e.set i none) m⟩
def wTryAs (ok : List Str) (sub : Str → Bool) (i : Nat) (wb : RXe → WS) (ws : Addr → Str → List (Str × D) → WS) (RX : RXe) : WS := fun k env M =>
  wb (fun n fs env' M' => Need (n ∈ ok) ∧ ifB (sub n) (∀ a : Addr, ws a n fs (outE i k) (env'.set i (some (.adr a))) M') (RX n fs env' M')) k env M
section
variable {X : Cx} {B : Bs} {x n : Str} {Cc : Addr} {i : Nat} {body suite : List Stmt} {b₀ : Stmt} {np pos pos' : Pos} {RX : RXe} {ok : List Str} {sub : Str → Bool} {wb : RXe → WS} {ws : Addr → Str → List (Str × D) → WS}
theorem d_tryAs (hs : X.stack = X.env :: X.outer) (hf : X.env.frame = some X.env.locals) (hN : X.N.Nodup) (hi : X.N[i]? = some n) (hln : X.env.kindOf n = some .local) (hc : Names X x (.ref Cc)) (tk : Takes X (WL X.K B RX))
    (hsub : ∀ n C, n ∈ ok → ClsAt X.K n C → PySem.W.exmOne X.K (.ref C) (.ref Cc) = some (sub n))
    (hb : ∀ (B' : Bs) (RX' : RXe) (pn : List (Addr × Obj)) (xe : Value → Shared → Prop), Takes (X.tr pn xe) (WL X.K B' RX') → DSs B' (X.tr pn xe) body (wb RX'))
    (hsu : ∀ (B' : Bs) (a C : Addr) (oe : Obj) (n : Str) (fs : List (Str × D)) (d : Option Addr) (pn : List (Addr × Obj)), Zc (.ref C) d oe → (∃ vs, oe.data = .fields vs) → ClsAt X.K n C → n ∈ ok → XdOk X.K B'.1 B'.2.1 B'.2.2 fs d → DSs B' (X.suite a ((a, oe) :: pn)) (b₀ :: suite) (ws a n fs)) :
    DS B X (.Try body [.ExceptHandler (some (.Name x np)) (some n) (b₀ :: suite) pos'] [] [] pos) (wTryAs ok sub i wb ws RX) := by
  refine (ps_try_as (Wout := WL X.K B RX) (tb := fun W D σ H => ∃ B' RX', (∀ c d σ H, WL X.K B' RX' c d σ H → W c d σ H) ∧ tDS X.K B' (wb RX') D σ H)
    (ts := fun a cls d D σ H => ∃ B' C n fs, cls = .ref C ∧ ClsAt X.K n C ∧ n ∈ ok ∧ XdOk X.K B'.1 B'.2.1 B'.2.2 fs d ∧ tDS X.K B' (ws a n fs) D σ H) hs hf hN hi hln hc tk
    (fun W pn xe tkW po => ⟨fun pins s σ H D I ⟨B', RX', imp, h⟩ => (hb B' RX' pn xe (tkW.imp imp)).run pins s σ H D I h⟩)
    (fun a oe cls d pn hz hd => ⟨fun pins s σ H D I ⟨B', C, n, fs, ec, ca, ho, xd, h⟩ => (hsu B' a C oe n fs d pn (ec ▸ hz) hd ca ho xd).run pins s σ H D I h⟩)).imp fun D σ H => ?_
  rintro ⟨P, al, M, env, k, rs, hw, L⟩
  refine ⟨(P, al, H), _, fun c d σ' H' q => ?_, P, al, M, env, k, ⟨rs.toRS0.here, rs.slen, rs.slot⟩, hw, ⟨fun env' M' σ' H' P' al' e rs' q => L.nx _ _ _ _ _ _ e ⟨rs'.toRS0.rebase (rs.base.trans e), rs'.slen, rs'.slot⟩ q, fun d M' v H' P' al' e rs' r q => L.rt _ _ _ _ _ _ e (rs'.rebase (rs.base.trans e)) r q,
    fun env' M' σ' H' P' al' e rs' q => L.bk _ _ _ _ _ _ e ⟨rs'.toRS0.rebase (rs.base.trans e), rs'.slen, rs'.slot⟩ q, fun env' M' σ' H' P' al' e rs' q => L.ct _ _ _ _ _ _ e ⟨rs'.toRS0.rebase (rs.base.trans e), rs'.slen, rs'.slot⟩ q⟩⟩
  obtain ⟨C, nm, fs, env', P', al', M', rfl, ca, rs', xd, ho, q⟩ := q
  have e0 : Ext P al H P' al' H' := rs'.base
  refine ⟨sub nm, hsub nm C ho.out ca, fun hb a hna => ?_, fun hb => ⟨C, nm, fs, env', P', al', M', rfl, ca, ⟨rs'.toRS0.rebase (rs.base.trans e0), rs'.slen, rs'.slot⟩, xd, q.2 hb⟩⟩
  have rs2 : RS X.K (P', al', H') P' al' M' env' σ' H' := ⟨rs'.toRS0.here, rs'.slen, rs'.slot⟩
  refine ⟨(P', al', H'), C, nm, fs, rfl, ca, ho.out, xd, P', al', M', _, outE i k, rs2.put i (.adr a), q.1 hb a, ⟨fun env2 M2 σ2 H2 P2 al2 e rs3 q3 => ?_, fun d M2 v H2 P2 al2 e rs3 r q3 => ?_, fun env2 M2 σ2 H2 P2 al2 e rs3 q3 => ?_, fun env2 M2 σ2 H2 P2 al2 e rs3 q3 => ?_⟩⟩
  · have rs4 := rs3.drp i
    exact L.nx _ _ _ _ _ _ (e0.trans e) ⟨rs4.toRS0.rebase (rs.base.trans (e0.trans e)), rs4.slen, rs4.slot⟩ q3
  · exact L.rt _ _ _ _ _ _ (e0.trans e) (rs3.rebase (rs.base.trans (e0.trans e))) r q3
  · have rs4 := rs3.drp i
    exact L.bk _ _ _ _ _ _ (e0.trans e) ⟨rs4.toRS0.rebase (rs.base.trans (e0.trans e)), rs4.slen, rs4.slot⟩ q3
  · have rs4 := rs3.drp i
    exact L.ct _ _ _ _ _ _ (e0.trans e) ⟨rs4.toRS0.rebase (rs.base.trans (e0.trans e)), rs4.slen, rs4.slot⟩ q3
/-- e.f, e the error that the suite holds at a -/
def wXf (a : Addr) (fs : List (Str × D)) (f : Str) (w : WE) : WE := fun env M R => w env M fun d M1 => match d with
  | .adr b => Need (b = a) ∧ match fs.lookup f with
    | some v => R v M1
    | none => False
  | _ => False
theorem d_xf {a C : Addr} {oe : Obj} {fs : List (Str × D)} {d : Option Addr} {pn : List (Addr × Obj)} {e : Expr} {f : Str} {w : WE} (T : XfC X.K C) (hno : PySem.W.findIn X.K (.ref C) f = some none) (hz : Zc (.ref C) d oe) (hf : ∃ vs, oe.data = .fields vs)
    (xd : XdOk X.K B.1 B.2.1 B.2.2 fs d) (he : DE B (X.suite a ((a, oe) :: pn)) e w) (hb : attributeBase e f X.env (eval e X.env) = eval e X.env := by rfl) : DE B (X.suite a ((a, oe) :: pn)) (.Attribute e f pos) (wXf a fs f w) := by
  refine (pe_xf T hno hz hf he hb).imp fun σ H Q => ?_
  rintro ⟨P, al, M, env, R, rs, hw, L⟩
  refine ⟨P, al, M, env, _, rs, hw, fun v M1 y H1 P1 al1 e1 rs1 r1 q => ?_⟩
  split at q
  · obtain ⟨hb, q⟩ := q
    have hb := hb.out
    subst hb
    split at q
    · rename_i v' el
      rcases xd.go rs1.base with ⟨_, h⟩ | ⟨dd, gs, h1, h2, h3, h4⟩
      · rw [h] at el; cases el
      · obtain ⟨z, l, rz⟩ := h4.find el
        cases r1
        exact ⟨rfl, rfl, dd, gs, z, h1, h3, l, (L.after e1).here rs1 rz q⟩
    · exact q.elim
  · exact q.elim
end
end L3

namespace L3
open PySem PySem.Spec PyProof.Rows L2
/-! ### defs with *args -/
section
variable {P : Program} {w : World} {K : PySem.W.Frag} {mg : Str → Option Value} {base : Heap}
theorem bodyX {qual : Str} {sc : Scope} {bd : List Stmt} {f : Addr} {N : List Str} {sp : DSp} {cdv : Value} {A : Around} {outer : List Env} {s : Shared} {H : Hp} {E : XK} {vs : List V} {Q : VK} {wb : RXe → WS} (h : toSp K sp vs H Q E)
    (hb : ∀ (B : Bs) (RX : RXe), Takes (cxOf (L2.CX P w) P w K mg base N qual sc f cdv A outer s H E) (WL K B RX) → DSs B (cxOf (L2.CX P w) P w K mg base N qual sc f cdv A outer s H E) bd (wb RX))
    (hw : ∀ ds M R RX, sp ds M R RX → M.all (cellOk M.length) = true → noCels M.length ds = true → wb (fun nm fs _ M' => rxF M.length RX nm fs M') (fnEnds M.length R) (startE N.length ds) M) :
    ∃ t, PSs (cxOf (L2.CX P w) P w K mg base N qual sc f cdv A outer s H E) bd t ∧ t { nx := fun _ H' => Q .non H', rt := Q } (start N vs) H := by
  obtain ⟨Pp, al, M, ds, R, RX, r0, r, hs, L, LX⟩ := h
  have el := r0.len
  have fin : ∀ d M' v H' P' al', Ext Pp al H P' al' H' → RS0 K (Pp, al, H) P' al' M' H' → Rep K P' al' d v → retF M.length R d M' → Q v H' := fun d M' v H' P' al' e r' rd q => by
    cases q with
    | keep q => exact L d M' v H' P' al' e r' rd q
    | less q1 q2 q3 =>
      rw [← el] at q1 q2 q3
      refine L d _ v H' P' al ⟨e.pp, List.prefix_refl _, e.fr, fun b m n => absurd m n, e.pn⟩ (r'.drop fun i m hi hm => ?_) (rd.cut e.pre q1) q3
      exact List.all_eq_true.mp q2 m (List.mem_of_getElem? (by rw [List.getElem?_take_of_lt hi]; exact hm))
  have finX : ∀ C nm fs M' H' P' al' dd, Ext Pp al H P' al' H' → RS0 K (Pp, al, H) P' al' M' H' → ClsAt K nm C → XdOk K P' al' H' fs dd → rxF M.length RX nm fs M' → E (.ref C) dd H' := fun C nm fs M' H' P' al' dd e r' c xd q => by
    cases q with
    | keep q => exact LX C nm fs M' H' P' al' dd e r' c xd q
    | less q1 q2 q3 =>
      rw [← el] at q1 q2 q3
      refine LX C nm fs _ H' P' al dd ⟨e.pp, List.prefix_refl _, e.fr, fun b m n => absurd m n, e.pn⟩ (r'.drop fun i m hi hm => ?_) c (xd.cut e.pre q1) q3
      exact List.all_eq_true.mp q2 m (List.mem_of_getElem? (by rw [List.getElem?_take_of_lt hi]; exact hm))
  obtain ⟨s1, s2⟩ := start_slots (N := N) r
  refine ⟨_, hb (Pp, al, H) _ ((takes_of rfl rfl rfl rfl).imp fun c d σ H' h => ?_), Pp, al, M, _, _, ⟨r0, s1, s2⟩, hw ds M R RX hs r0.inside (by rw [← el]; exact r.inside), ⟨fun env' M' σ' H' P' al' e rs q => fin _ _ _ _ _ _ e rs.toRS0 .non q, fun d M' v H' P' al' e rs rd q => fin _ _ _ _ _ _ e rs rd q, fun _ _ _ _ _ _ _ _ z => z.elim, fun _ _ _ _ _ _ _ _ z => z.elim⟩⟩
  obtain ⟨C, nm, fs, env, P', al', M', rfl, c, rs, xd, q⟩ := h
  exact finX C nm fs M' H' P' al' d rs.base rs.toRS0 c xd q
/-- the promise of a def with a star parameter behind n others: what is left over is a tuple -/
def starSp (n : Nat) (sp : DSp) : DSp := fun ds M R RX => Need (n ≤ ds.length ∧ ds.length ≤ sizeLine) ∧ sp (ds.take n ++ [.tup (ds.drop n)]) M R RX
theorem dfnS {x qual pv : Str} {st : Stmt} {f : Addr} {fd : FuncData} {N ps : List Str} {k : Nat} {sp : DSp} {wb : RXe → WS} (F : Fun K x qual st f fd) (S : FnScope N (ps ++ [pv]) (defScope st))
    (hbi : ∀ (kV doc pm : Value) (an : Option Addr) (cdv ct : Value) (us rest : List Value), us.length = ps.length → bindArgs (PySem.W.fnOf x qual (defArgs st) (defBody st) (defScope st) .none kV doc pm an cdv ct) ⟨us ++ rest, []⟩ = (newTuple rest >>= fun t => pure (ps.zip us ++ [(pv, t)])))
    (body : ∀ (cdv : Value) (A : Around) (outer : List Env) (s : Shared) (H : Hp) (E : XK), Room k (A.deeper (envOfC qual (defScope st) s.heap.objs.size f cdv)) → ∀ (B : Bs) (RX : RXe), Takes (cxOf (L2.CX P w) P w K mg base N qual (defScope st) f cdv A outer s H E) (WL K B RX) → DSs B (cxOf (L2.CX P w) P w K mg base N qual (defScope st) f cdv A outer s H E) (defBody st) (wb RX))
    (hw : ∀ ds M R RX, sp ds M R RX → M.all (cellOk M.length) = true → noCels M.length ds = true → wb (fun nm fs _ M' => rxF M.length RX nm fs M') (fnEnds M.length R) (startE N.length ds) M) :
    FnR P w K mg base (L2.CX P w) (k + 1) f (toSp K (starSp ps.length sp)) := by
  obtain ⟨oc, od, kV, doc, pm, an, cdv, ct, osl, rfl, lk, hcd⟩ := F.ex
  refine (StX.fn_star (sp := toSp K sp) lk hcd S StX.cxUp (fun us rest hl => hbi kV doc pm an cdv ct us rest hl) fun A outer s H vs Q E hr h => bodyX h (fun B RX => body cdv A outer s H E hr B RX) hw).imp fun vs H Q E h => ?_
  obtain ⟨Pp, al, M, ds, R, RX, r0, r, ⟨hl, hs⟩, L, LX⟩ := h
  obtain ⟨hl, hz⟩ := hl.out
  rw [r.length] at hl hz
  refine ⟨vs.take ps.length, vs.drop ps.length, (List.take_append_drop _ _).symm, by rw [List.length_take]; omega, by rw [List.length_drop]; omega, fun p hp => ?_⟩
  obtain ⟨e, r1⟩ := r0.alloc hp (.tup (vs.drop ps.length))
  refine ⟨_, al, M, _, R, RX, r1.here, ((r.take _).mono e.pp e.pre).append (.cons (.tup (.inl (.inl upd_same)) ((r.drop _).mono e.pp e.pre)) .nil), hs, fun d M' v H' P' al' e2 r2 rd q => L d M' v H' P' al' (e.trans e2) (r2.rebase (e.trans e2)) rd q, fun C n fs M' H' P' al' dd e2 r2 c xd q => LX C n fs M' H' P' al' dd (e.trans e2) (r2.rebase (e.trans e2)) c xd q⟩
end
/-! ### starred arguments, classes by name, class methods -/
section
variable {X : Cx} {B : Bs} {CX : CXT} {k i : Nat} {f C : Addr} {sp : DSp} {n x m : Str} {p p2 pos apos : Pos} {e o : Expr} {es : List Expr} {was : WA} {we wo : WE} {RX : RXe}
def wStar (we : WE) (was : WA) : WA := fun env M R => we env M fun d M1 => match seqD (viewD M1 d) with
  | some l => was env M1 fun ds M2 => R (l ++ ds) M2
  | none => False
theorem da_star (he : DE B X e we) (hr : DA B X es was) (hs : starEach (.Starred e p :: es) X.env = (true, eval e X.env) :: starEach es X.env := by rfl) : DA B X (.Starred e p :: es) (wStar we was) := by
  refine (StX.pa_star he hr hs).imp fun σ H Q => ?_
  rintro ⟨P, al, M, env, R, rs, hw, L⟩
  refine ⟨P, al, M, env, _, rs, hw, fun d M1 v H1 P1 al1 e1 rs1 r1 q => ?_⟩
  split at q
  · rename_i l el
    obtain ⟨a, xs, rfl, h1, h2⟩ := view_seq rs1.toRS0 r1 el
    exact ⟨a, xs, rfl, h1.symm, P1, al1, M1, env, _, rs1, q, fun ds M2 vs H2 P2 al2 e2 rs2 r2 q2 => L _ _ _ _ _ _ (e1.trans e2) rs2 ((h2.mono e2.pp e2.pre).append r2) q2⟩
  · exact q.elim
theorem d_gcls (hg : Gl X x) (hm : X.mg x = some (.ref C)) (ca : ClsAt X.K n C) (hdb : (x == ("__debug__" : Str)) = false := by decide) : DE B X (.Name x p) (wC (.cls n)) := by
  refine (pe_glob (v := .ref C) hg hm rfl hdb).imp fun σ H Q => ?_
  rintro ⟨P, al, M, env, R, rs, hw, L⟩
  exact L.here rs (.cls ca) hw
/-- cls(e, ..), the i-th slot a class -/
def wMkL (i : Nat) (n : Str) (sp : DSp) (RX : RXe) (was : WA) : WE := fun env M R => match env[i]? with
  | some (some (.cls n')) => Need (n' = n) ∧ wMk n sp RX was env M R
  | _ => False
theorem d_mkL (ca : ClsAt X.K n C) (Mc : Mk X.K C f) (F : FnR X.prog X.w X.K X.mg X.base CX k f (toSp X.K sp)) (hr : Room (k + 1) X.A) (hx : Rz X B CX RX) (hN : X.N[i]? = some x) (hv : Vis X.env.scope x) (ha : DA B X (e :: es) was)
    (hdb : (x == ("__debug__" : Str)) = false := by decide) (hcd : (x == ("__classdict__" : Str)) = false := by decide)
    (he : starEach (e :: es) X.env = (false, eval e X.env) :: starEach es X.env := by rfl) (hst : (backTo pos (starEach es X.env)).any (·.1) = true := by rfl) : DE B X (.Call (.Name x p) (e :: es) [] pos) (wMkL i n sp RX was) := by
  refine ⟨fun pins s σ H Q I h => ?_⟩
  obtain ⟨P, al, M, env, R, rs, hw, L⟩ := h
  unfold wMkL at hw
  split at hw
  · rename_i n' en
    obtain ⟨hn, hw⟩ := hw
    have hn := hn.out
    subst hn
    obtain ⟨v, h1, h2⟩ := rs.slot i _ en
    cases h2 with
    | cls c2 =>
      obtain rfl := ca.one c2
      refine wpAny_Call_Name_kw (thn ((pe_var (pos := p) hN hv hdb hcd).run pins s σ H (fun v H1 => v = .ref C ∧ H1 = H) I ⟨.ref C, h1, rfl, rfl⟩) fun u s1 ⟨v, H1, I1, r1, q1⟩ => ?_)
      obtain ⟨rfl, rfl⟩ := q1
      cases r1
      refine PySem.W.callWith_S2 (h₀ := X.base) I.ok.mod.kin Mc.kp (thn (ha.run pos pins s1 σ _ (fun vs H1 => ∀ x dx, H1 x = none → H1 dx = none → dx ≠ x → toSp X.K sp (V.ref x :: vs) (upd (upd H1 dx (.own x)) x (.ins C dx [])) (fun v H2 => v = .non ∧ Q (.ref x) H2) (L2.WE (WL X.K B RX) σ)) I1 ⟨P, al, M, env, _, rs, hw, fun ds M1 vs H1 P1 al1 e1 rs1 r1 q x dx hx hd ne => mk_sp ca rs1 r1 (L.after e1) hx hd ne (fun _ _ h => ⟨h.1, .inr h.2⟩) q⟩) fun us s2 ⟨vs, H2, I2, r, q⟩ => ⟨I2.kIn, ?_⟩) he hst
      exact make_at Mc F hr (hx σ) I2 r q
  · exact hw.elim
/-- C.m(e, ..), a class method -/
def wCMeth (n : Str) (sp : DSp) (RX : RXe) (wo : WE) (was : WA) : WE := fun env M R => wo env M fun o M1 => match o with
  | .cls n' => Need (n' = n) ∧ was env M1 fun ds M2 => sp (.cls n :: ds) M2 R fun n fs M' => RX n fs env M'
  | _ => False
theorem d_cmeth {mc : Value} {q g : Addr} {pl : Sem Bool} (ca : ClsAt X.K n C) (ho : DE B X o wo) (r : ClX.CRead X.K C mc) (c : ClX.CMet X.K C mc m q g) (F : FnR X.prog X.w X.K X.mg X.base CX k g (toSp X.K sp)) (hr : Room k X.A) (hx : Rz X B CX RX) (ha : DA B X (e :: es) was)
    (hst : starEach (e :: es) X.env = (false, eval e X.env) :: starEach es X.env := by rfl) (hpl : (backTo pos (starEach es X.env)).any (·.1) = false := by rfl)
    (ht : eval (.Call (.Attribute o m apos) (e :: es) [] pos) X.env = (do
      let ov ← eval o X.env
      standAt apos.atName
      let (f, fst) ← holding [ov] (getMethod ov m pl)
      callWith pos f fst (backTo pos (starEach (e :: es) X.env)) (backToKw pos (keywordEach [] X.env))) := by rfl) : DE B X (.Call (.Attribute o m apos) (e :: es) [] pos) (wCMeth n sp RX wo was) := by
  refine ⟨fun pins s σ H Q I h => ?_⟩
  obtain ⟨P, al, M, env, R, rs, hw, L⟩ := h
  refine PySem.W.methodCall_KW (pl := pl) (thn (ho.run pins s σ H (fun x H1 => x = .ref C ∧ tDA X.K B was σ H1 fun vs H2 => toSp X.K sp (.ref C :: vs) H2 Q (L2.WE (WL X.K B RX) σ)) I ⟨P, al, M, env, _, rs, hw, fun d M1 v H1 P1 al1 e1 rs1 r1 q => ?_⟩) fun u s1 ⟨x, H1, I1, rx, ex, q⟩ => ?_) ht
  · split at q
    · obtain ⟨hn, q⟩ := q
      have hn := hn.out
      subst hn
      cases r1 with
      | cls c2 =>
        obtain rfl := ca.one c2
        exact ⟨rfl, P1, al1, M1, env, _, rs1, q, fun ds M2 vs H2 P2 al2 e2 rs2 r2 q2 => sp_at rs2 (.cons (.cls ca) r2) (L.after (e1.trans e2)) q2⟩
    · exact q.elim
  · subst ex
    cases rx
    refine ClX.getmethcm_ok I1 r c fun s2 I2 => ?_
    refine ClX.callwith_cm I2 (ClX.base_none I1 (Nat.le_refl _)) c.fi (thn (ha.run pos _ s2 σ H1 _ I2 q) fun us s3 ⟨vs, H2, I3, rv, q2⟩ => ⟨⟨ClX.pin_at I3, I3.kIn⟩, ?_⟩) hst hpl
    have z := wpAny_call (PySem.W.method_call (ClX.pin_at I3) (run_at (us := .ref C :: us) (vs := .ref C :: vs) F hr (hx σ) I3 (.cons rfl rv) q2))
    exact thn z fun _ _ y => ClX.unpinE y
end
end L3

namespace L3
open PySem PySem.Spec PyProof.Rows L2
/-! ### enumerate of a tuple -/
open Builtin in
theorem enum_newT (l : Addr) (items : Array Value) (n : Nat) (dct : Option Addr) (sl : Array (Option Value)) :
    Meets (Builtin.«enumerate.__new__» ⟨[.type "enumerate", .ref l], []⟩) (fun _ R s => s.heap.get? l = some { cls := .type "tuple", dict := dct, data := .seq items n, slots := sl } ∧
      R (.ok (.ret (.ref (s.heap.push { cls := .type "tuple_iterator", data := .fields #[.ref l, .int 0 0] }).objs.size)))
        { s with heap := (s.heap.push { cls := .type "tuple_iterator", data := .fields #[.ref l, .int 0 0] }).push { cls := .type "enumerate", data := .fields #[.none, .bool false, .ref s.heap.objs.size, rawInt 0, .none, .none] } }) :=
  .of_wp fun prog w A R s h => by
    obtain ⟨hp, g, d, tk, os⟩ := s
    obtain ⟨hl, h⟩ := h
    have hsub := sub_enumerate
    have hL : Heap.IsTuple (Shared.heap ⟨hp, g, d, tk, os⟩) l items := ⟨_, hl, rfl, n, rfl⟩
    wp_walk using AutoSeq1.wpAny_loadPart' hl
    refine wpAny_stack_any fun st => wpAny_pure ?_
    split
    · rename_i c _ _ _ _ _
      cases (c == Value.type "enumerate") <;>
        (wp_walk using AutoSeq1.wpAny_loadPart' hl, wpAny_pyIter_tuple hL
         exact ⟨_, rfl, h⟩)
    · wp_walk using AutoSeq1.wpAny_loadPart' hl, wpAny_pyIter_tuple hL
      exact ⟨_, rfl, h⟩
section
variable {prog : Program} {w : World} {A : Around} {E : Value → Shared → Prop} {s : Shared}
theorem call_enumT {l : Addr} {items : Array Value} {Q : Value → Shared → Prop} (hL : s.heap.IsTuple l items)
    (h : ∀ h', IsEnum h' (s.heap.objs.size + 1) s.heap.objs.size 0 .none → h'.IsTupleIter s.heap.objs.size l 0 → (∀ b o, s.heap.get? b = some o → h'.get? b = some o) → Q (.ref (s.heap.objs.size + 1)) { s with heap := h' }) :
    wpAny (model prog w) A (call (.type "enumerate") [.ref l]) Q E s := by
  obtain ⟨⟨c, dct, dt, sl⟩, hl, hc, n, hd⟩ := hL
  replace hc : c = .type "tuple" := hc
  replace hd : dt = .seq items n := hd
  subst hc hd
  refine callType_new F.called_enumerate (by decide) (F.typeCall_enumerate_1 _) (F.newCall_enumerate_1 _)
    (fun obj => F.args_object_init_2 obj _) F.entry_enumerate_new (enum_newT l items n dct sl) ⟨hl, ?_⟩
  have hz : (s.heap.push { cls := .type "tuple_iterator", data := .fields #[.ref l, .int 0 0] }).objs.size = s.heap.objs.size + 1 := Heap.size_push ..
  show _ ∧ _
  rw [hz]
  have he : IsEnum ((s.heap.push { cls := .type "tuple_iterator", data := .fields #[.ref l, .int 0 0] }).push
      { cls := .type "enumerate", data := .fields #[.none, .bool false, .ref s.heap.objs.size, rawInt 0, .none, .none] }) (s.heap.objs.size + 1) s.heap.objs.size 0 .none := by
    have q := Heap.get?_push_size (s.heap.push { cls := .type "tuple_iterator", data := .fields #[.ref l, .int 0 0] })
      (o := { cls := .type "enumerate", data := .fields #[.none, .bool false, .ref s.heap.objs.size, rawInt 0, .none, .none] }) rfl
    rw [hz] at q; exact q
  exact ⟨⟨_, he, rfl⟩, h _ he ⟨_, Heap.get?_push_of_some _ (Heap.get?_push_size _ rfl), rfl, rfl⟩ fun b o x => Heap.get?_push_of_some _ (Heap.get?_push_of_some _ x)⟩
end
/-- the tuple at a, each item in a new pair -/
def ItET (K : PySem.W.Frag) (a : Addr) : It :=
  ⟨fun i H => ∃ (xs : List V) (x : V), SqT K H a xs ∧ xs[i]? = some x,
    fun i H v H' => ∃ T x, v = .ref T ∧ H T = none ∧ H' = upd H T (.tup [.int (i : Nat), x]) ∧ ∀ xs, SqT K H a xs → xs[i]? = some x,
    fun i H => ∃ xs : List V, SqT K H a xs ∧ xs.length ≤ i⟩
def EnS (a e it : Addr) (its : Array Value) (i : Nat) (h : Heap) : Prop := (∃ old, IsEnum h e it ((i : Nat) : Int) old) ∧ h.IsTupleIter it a i ∧ h.IsTuple a its ∧ e ≠ it
theorem turn_enumT {P : Program} {w : World} {K : PySem.W.Frag} {elts : List Expr} {kk : Nat} {tpos : Pos} (a e it : Addr) : Turn P w K (.Tuple elts kk tpos) (ItET K a) [e, it] e (fun i h => (∃ old, IsEnum h e it ((i : Nat) : Int) old) ∧ h.IsTupleIter it a i ∧ e ≠ it) where
  mem := by simp
  obj := fun i h st b hb => by
    obtain ⟨⟨old, he⟩, ⟨o, ho, hc, hd⟩, _⟩ := st
    rcases (by simpa using hb : b = e ∨ b = it) with z | z
    · rw [z]; exact ⟨_, he, fun v q => nomatch q⟩
    · rw [z]; exact ⟨o, ho, fun v q => by rw [hd] at q; cases q⟩
  keep := fun i h h' st k => by
    obtain ⟨⟨old, he⟩, hi, hne⟩ := st
    exact ⟨⟨old, k e (by simp) _ he⟩, hi.at fun o q => k it (by simp) o q, hne⟩
  item := by
    intro X hP hw hK hc i pins s σ H E I hf st hg
    subst hP hw hK
    obtain ⟨⟨old, he⟩, hit, hne⟩ := st
    obtain ⟨xs, x, hq, hx⟩ := hg
    obtain ⟨its, rv, p, hz⟩ := I.tuple hq
    obtain ⟨u, hu, ru⟩ := rv.get hx
    have hT : s.heap.IsTuple a its.toArray := p
    have nae : e ≠ a := fun z => by
      obtain ⟨o, h1, h2, _⟩ := hT
      rw [← z, he] at h1; cases h1
      exact absurd (Value.type.inj h2) (by decide)
    have nai : a ≠ it := fun z => by
      obtain ⟨o, h1, h2, _⟩ := hT
      obtain ⟨o', g1, g2, _⟩ := hit
      rw [z, g1] at h1; cases h1
      rw [g2] at h2
      exact absurd (Value.type.inj h2) (by decide)
    have hel : e < s.heap.objs.size := Heap.lt_size he
    have hil : it < s.heap.objs.size := by obtain ⟨_, q, _⟩ := hit; exact Heap.lt_size q
    have hh : X.A.in1.handled = none := I.ok.hd hc
    have hlt : i < its.toArray.size := by simpa using (List.getElem?_eq_some_iff.mp hu).1
    refine wpAny_pyNext_enum_itemD (Draws.tuple hh it a nai its.toArray) he ⟨hit, hT⟩ hlt hne (by simp; exact ⟨hne, nae⟩) fun v h' tk hv ho hst hTp hsz hk => ?_
    have hv : v = u := by
      have hu' : its.toArray[i]? = some u := by simpa using hu
      rw [hu'] at hv; exact (Option.some.inj hv).symm
    subst hv
    refine ⟨_, rfl, wpAny_letOwnedTupleGo_enum (s := { s with heap := h', toks := tk + 1 }) ho fun h'' he' sb => ?_⟩
    have hT2 : h''.get? s.heap.objs.size = some { cls := .type "tuple", data := .seq #[.int i tk, v] } := (sb.2 _ (Nat.ne_of_gt hel)).trans hTp
    have new : ObjOk X.prog X.w (upd H s.heap.objs.size (.tup [.int (i : Nat), x])) h'' s.heap.objs.size (.tup [.int (i : Nat), x]) :=
      ⟨by show 2 ≤ sizeLine; decide, [.int i tk, v], .cons ⟨_, rfl⟩ (.cons ru .nil), ⟨_, hT2, rfl, _, rfl⟩⟩
    have J : Inv X pins σ (upd H s.heap.objs.size (.tup [.int (i : Nat), x])) { s with heap := h'', toks := tk + 1 } :=
      I.turnedNew (ch := [e, it]) (fun b ob hb q => (sb.2 b (fun z => hb (by simp [z]))).trans (hk b ob (fun z => hb (by simp [z])) (fun z => hb (by simp [z])) q)) hf (Nat.le_refl _) new
    refine ⟨.ref s.heap.objs.size, _, J, rfl, ⟨_, x, rfl, I.hok.fresh (Nat.le_refl _), rfl, fun ys hy => by rw [I.tuple_inj hy hq]; exact hx⟩, ⟨⟨v, ?_⟩, hst.1.at fun o q => (sb.2 it (Ne.symm hne)).trans q, hne⟩, fun b hb => ?_⟩
    · rw [show ((i + 1 : Nat) : Int) = (i : Int) + 1 from by omega]; exact he'
    · have hb' : b < s.heap.objs.size := by
        rcases (by simpa using hb : b = e ∨ b = it) with z | z
        · rw [z]; exact hel
        · rw [z]; exact hil
      rw [upd_ne (Nat.ne_of_lt hb')]
      exact (hf b hb).1
  done := by
    intro X hP hw hK hc i pins s σ H E I hf st hg
    subst hP hw hK
    obtain ⟨⟨old, he⟩, hit, hne⟩ := st
    obtain ⟨xs, hq, hx⟩ := hg
    obtain ⟨its, rv, p, hz⟩ := I.tuple hq
    obtain ⟨f0, f1, f2, f3, f4, f5⟩ := hf it (by simp)
    have hT : s.heap.IsTuple a its.toArray := p
    have hT0 : s.TypeIs (.ref e) "enumerate" := ⟨_, he, rfl⟩
    have hnone : its.toArray[i]? = none := by have := rv.length; simp; omega
    unfold pyNext
    refine wpAny_bind (wpAny_attempt (wpAny_callSpecial?_slot (name := Str.ofString "__next__") hT0 F.slot_enumerate_next
      (wpAny_call_entry F.slot_enumerate_next hT0 F.entry_enumerate_next ?_ (F.args_enumerate_next_1 _))))
    show wpAny _ _ (field (.ref e) 2 >>= _) _ _ _
    refine wpAny_bind (wpAny_field he rfl (x := .ref it) rfl ?_)
    refine wpAny_bind (wpAny_nextOf_tuple_end (show X.A.in1.handled = none from I.ok.hd hc) hit hT hnone fun h' x he' hx' => ?_)
    obtain ⟨o, ho, hc'⟩ := hx'
    refine wpAny_bind (wpAny_isInstance (T := "StopIteration") (b := true) ⟨o, ho, hc'⟩ isSubtype_stop ?_)
    exact wpAny_pure ⟨rfl, I.turned (t' := s.toks) (fun b o hb q => he' b o hb q) f0 f1 f3 f4 f5⟩
  self := fun A i s Q E st h => by
    obtain ⟨⟨_, he⟩, _⟩ := st
    exact wpAny_pyIter_enum he h
def iEnumA (K : PySem.W.Frag) (ta : TA) : TI := fun σ H R => ta σ H fun vs H1 => (∃ a xs, vs = [.ref a] ∧ SqL K H1 a xs ∧ R (Ite K a) H1) ∨ ∃ a xs, vs = [.ref a] ∧ SqT K H1 a xs ∧ R (ItET K a) H1
theorem pi_enumA {X : Cx} {e : Expr} {ta : TA} {p pos tpos : Pos} {elts : List Expr} {kk : Nat} (hg : Gl X "enumerate") (hm : X.mg "enumerate" = none) (ha : PA X [e] ta) (hs : starEach [e] X.env = [(false, eval e X.env)] := by rfl) :
    PI X (.Tuple elts kk tpos) (.Call (.Name "enumerate" p) [e] [] pos) (iEnumA X.K ta) := by
  refine ⟨fun pins s σ H R I h => Call_ (ld_blt I hg hm boot_enumerate (PyProof.Rows.callWith_type1 (thn (ha.run pos pins s σ H _ I h) fun us s1 ⟨vs, H1, I1, r1, q1⟩ => ?_) hs rfl))⟩
  have fpk : ∀ b ∈ [s1.heap.objs.size + 1, s1.heap.objs.size], FpOk X pins H1 b := fun b hb => by
    have hle : s1.heap.objs.size ≤ b := by
      rcases (by simpa using hb : b = s1.heap.objs.size + 1 ∨ b = s1.heap.objs.size) with z | z <;> omega
    exact I1.fpOk hle (I1.hok.fresh hle)
  have one : ∀ {a : Addr} {us : List Value}, Vals [V.ref a] us → us = [Value.ref a] := fun {a us} r => by
    cases r with
    | cons r rr => cases rr; cases r; rfl
  rcases q1 with ⟨a, xs, ex, hq, q⟩ | ⟨a, xs, ex, hq, q⟩ <;> subst ex <;> obtain rfl := one r1
  · obtain ⟨its, rv, p', hz⟩ := I1.list hq
    refine call_enumerate_list p'.isList fun h' he hit hsz hk => wpAny_pyIter_enum he ?_
    exact ⟨_, [s1.heap.objs.size + 1, s1.heap.objs.size], _, _, H1, rfl, I1.kept (t' := s1.toks) hk, turn_enum a _ _, ⟨⟨.none, he⟩, hit, Nat.succ_ne_self _⟩, fpk, q⟩
  · obtain ⟨its, rv, p', hz⟩ := I1.tuple hq
    refine call_enumT (show s1.heap.IsTuple a its.toArray from p') fun h' he hit hk => wpAny_pyIter_enum he ?_
    exact ⟨_, [s1.heap.objs.size + 1, s1.heap.objs.size], _, _, H1, rfl, I1.kept (t' := s1.toks) hk, turn_enumT a _ _, ⟨⟨.none, he⟩, hit, Nat.succ_ne_self _⟩, fpk, q⟩
/-! ### over data -/
def enumD (k : Nat) : List D → List D
  | [] => []
  | d :: r => .tup [.int k, d] :: enumD (k + 1) r
theorem enumD_len : ∀ (l : List D) (k : Nat), (enumD k l).length = l.length
  | [], _ => rfl
  | _ :: r, k => by show (enumD (k + 1) r).length + 1 = r.length + 1; rw [enumD_len r]
theorem enumD_get : ∀ (l : List D) (k i : Nat) (d : D), (enumD k l)[i]? = some d → ∃ x, l[i]? = some x ∧ d = .tup [.int ((k + i : Nat) : Int), x]
  | [], _, _, _, h => by cases h
  | x :: r, k, 0, d, h => ⟨x, rfl, (Option.some.inj h).symm⟩
  | x :: r, k, i + 1, d, h => by
    obtain ⟨y, h1, h2⟩ := enumD_get r (k + 1) i d h
    exact ⟨y, h1, by rw [h2, show k + 1 + i = k + (i + 1) from by omega]⟩
section
variable {K : PySem.W.Frag} {a : Addr} {xs : List V} {ds : List D} {P : Hp} {al : List Addr}
theorem enum_turn {B : Bs} {P2 : Hp} {al2 : List Addr} {M2 : Mt} {H2 H3 : Hp} {T : Addr} {i : Nat} {v : V} {d : D} (r0 : RS0 K B P2 al2 M2 H2) (hT : H2 T = none) (rv : Rep K P2 al2 d v) (e : H3 = upd H2 T (.tup [.int (i : Nat), v])) :
    ∃ P3, Ext P2 al2 H2 P3 al2 H3 ∧ RS0 K B P3 al2 M2 H3 ∧ Rep K P3 al2 (.tup [.int (i : Nat), d]) (.ref T) := by
  subst e
  obtain ⟨e1, r1⟩ := r0.alloc hT (.tup [.int (i : Nat), v])
  exact ⟨_, e1, r1, .tup (.inl (.inl upd_same)) (.cons (.int _) (.cons (rv.mono e1.pp e1.pre) .nil))⟩
theorem walk_enumL (h : ∀ H2, Same P H2 → SqL K H2 a xs) (r : Reps K P al ds xs) : Walk K (Ite K a) (enumD 0 ds) P al := by
  intro B P2 al2 M2 H2 s p r0
  have h2 : SqL K H2 a xs := h _ (s.trans r0.same)
  have r2 := r.mono s p
  refine ⟨fun i d hd => ?_, ⟨xs, h2, by rw [enumD_len, r.length]; exact Nat.le_refl _⟩⟩
  obtain ⟨x, hx, rfl⟩ := enumD_get ds 0 i d hd
  obtain ⟨v, hv, rv⟩ := r2.get hx
  refine ⟨⟨xs, v, h2, hv⟩, fun y H3 ⟨T, z, e1, e2, e3, f⟩ => ?_⟩
  have hz := f _ h2
  rw [hv] at hz; cases hz
  subst e1
  rw [show (0 + i : Nat) = i from Nat.zero_add i]
  exact enum_turn r0 e2 rv e3
theorem walk_enumT (h : SqT K P a xs) (r : Reps K P al ds xs) : Walk K (ItET K a) (enumD 0 ds) P al := by
  intro B P2 al2 M2 H2 s p r0
  have h2 : SqT K H2 a xs := same_seqT r0.same (same_seqT s h)
  have r2 := r.mono s p
  refine ⟨fun i d hd => ?_, ⟨xs, h2, by rw [enumD_len, r.length]; exact Nat.le_refl _⟩⟩
  obtain ⟨x, hx, rfl⟩ := enumD_get ds 0 i d hd
  obtain ⟨v, hv, rv⟩ := r2.get hx
  refine ⟨⟨xs, v, h2, hv⟩, fun y H3 ⟨T, z, e1, e2, e3, f⟩ => ?_⟩
  have hz := f _ h2
  rw [hv] at hz; cases hz
  subst e1
  rw [show (0 + i : Nat) = i from Nat.zero_add i]
  exact enum_turn r0 e2 rv e3
end
def wEnumerate (was : WA) : WI := fun env M RR => was env M fun ds M1 => match ds with
  | [.lst l] => RR (enumD 0 l) M1
  | [.rol l] => RR (enumD 0 l) M1
  | [.tup l] => RR (enumD 0 l) M1
  | _ => False
theorem di_enumerate {X : Cx} {B : Bs} {e : Expr} {was : WA} {elts : List Expr} {kk : Nat} {p pos tpos : Pos} (hg : Gl X "enumerate") (hm : X.mg "enumerate" = none) (ha : DA B X [e] was) (hs : starEach [e] X.env = [(false, eval e X.env)] := by rfl) :
    DI B X (.Tuple elts kk tpos) (.Call (.Name "enumerate" p) [e] [] pos) (wEnumerate was) := by
  refine (pi_enumA hg hm ha hs).imp fun σ H R => ?_
  rintro ⟨P, al, M, env, RR, rs, hw, L⟩
  refine ⟨P, al, M, env, _, rs, hw, fun ds M1 vs H1 P1 al1 e1 rs1 r1 q => ?_⟩
  split at q
  · cases r1 with
    | cons q1 t =>
      cases t
      cases q1 with
      | lst h1 h2 => exact .inl ⟨_, _, rfl, SqL.of (rs1.same _ _ h1), L _ _ _ _ _ _ e1 rs1 (walk_enumL (fun _ s => SqL.of (s _ _ h1)) h2) q⟩
  · cases r1 with
    | cons q1 t =>
      cases t
      cases q1 with
      | rol h1 h2 => exact .inl ⟨_, _, rfl, rs1.same.seq h1, L _ _ _ _ _ _ e1 rs1 (walk_enumL (fun _ s => s.seq h1) h2) q⟩
  · cases r1 with
    | cons q1 t =>
      cases t
      cases q1 with
      | tup h1 h2 => exact .inr ⟨_, _, rfl, same_seqT rs1.same h1, L _ _ _ _ _ _ e1 rs1 (walk_enumT h1 h2) q⟩
  · exact q.elim
end L3

namespace L3
open PySem PySem.Spec PyProof.Rows L2
/-! ### isinstance of the error that a suite holds -/
/-- what isinstance asks of an own error's class -/
structure ErC (K : PySem.W.Frag) (C : Addr) : Prop where
  cl : (PySem.W.clsIn K C).isSome = true
  ga : PySem.W.findIn K (.ref C) "__getattribute__" = some (some (.builtin "BaseException.__getattribute__"))
  gg : PySem.W.findIn K (.ref C) "__getattr__" = some none
  sb : PySem.W.subIn K (.ref C) (.type "BaseException") = some true
  ca : PySem.W.findIn K (.ref C) "__class__" = some (some (.builtin "object.__class__"))
  cg : PySem.W.specialIn K (.builtin "object.__class__") "__get__" = some (some (.builtin "getset_descriptor.__get__"))
  tk : PySem.W.takesIn K (.builtin "object.__class__") = some true
  ob : PySem.W.mroIn K C (.type "object") = some true
def rIsX (K : PySem.W.Frag) (C a : Addr) (d : Option Addr) : List V → Hp → VK → Prop := fun xs H Q => ∃ (c : V) (cv : Value) (b : Bool), xs = [.ref a, c] ∧ (∀ u, RelV c u → u = cv) ∧ PySem.W.kitOne K (.ref C) cv = some b ∧
  (d = none ∨ ∃ dd gs, d = some dd ∧ H dd = some (.xd gs)) ∧ Q (.bl b) H
theorem call_isX {X : Cx} {a C : Addr} {oe : Obj} {d : Option Addr} {pn : List (Addr × Obj)} (T : ErC X.K C) (hz : Zc (.ref C) d oe) (hf : ∃ vs, oe.data = .fields vs) : CallR (X.suite a ((a, oe) :: pn)) (.builtin "isinstance") (rIsX X.K C a d) := by
  intro pins s σ H xs us Q I r h
  obtain ⟨c, cv, b, rfl, hcv, e, hd, q⟩ := h
  cases r with
  | cons rx rr =>
    cases rr with
    | cons rt rr =>
      cases rr
      cases rx
      have ec := hcv _ rt
      subst ec
      obtain ⟨hget, _⟩ := I.pin (a, oe) (List.mem_append.mpr (.inl List.mem_cons_self))
      obtain ⟨vs, hv⟩ := hf
      obtain ⟨oc, od, oda, osl⟩ := oe
      obtain ⟨h1, h2⟩ := hz
      dsimp only at h1 h2 hv
      subst h1 h2 hv
      have J : ∃ ob, PySem.W.InstAt s.heap a ⟨.ref C, od, .fields vs, osl⟩ C ob := by
        rcases hd with rfl | ⟨dd, gs, rfl, hx⟩
        · exact ⟨none, hget, rfl, rfl, trivial⟩
        · obtain ⟨mA, hns, _⟩ := (show ObjOk X.prog X.w H s.heap dd (.xd gs) from I.hok dd _ hx)
          obtain ⟨o, ho, _⟩ := lookIn_ns hns
          exact ⟨some o, hget, rfl, rfl, ho⟩
      obtain ⟨ob, J⟩ := J
      exact PySem.W.kia_one (PySem.W.kitx_exc T.cl T.ga T.gg T.sb T.ca T.cg T.tk T.ob) I.kIn J e (fun z => nomatch z) fun tk => ⟨.bl b, H, I.kept (t' := tk) fun _ _ z => z, rfl, q⟩
/-- isinstance(e, c), e the error at a; tb: its answers -/
def cIsX (a : Addr) (tb : List (Str × Bool)) : WCl := fun ds M R => match ds with
  | [.adr b, .cls c] => match tb.lookup c with
    | some r => Need (b = a) ∧ R (.bl r) M
    | none => False
  | _ => False
theorem cIsX_ok {K : PySem.W.Frag} {B : Bs} {C a : Addr} {fs : List (Str × D)} {d : Option Addr} {tb : List (Str × Bool)} (xd : XdOk K B.1 B.2.1 B.2.2 fs d) (ht : ∀ c r Cc, tb.lookup c = some r → ClsAt K c Cc → PySem.W.kitOne K (.ref C) (.ref Cc) = some r) : CallD K B (rIsX K C a d) (cIsX a tb) := by
  intro P al M env σ H vs ds R Q rs r h L
  unfold cIsX at h
  split at h
  · rename_i b c
    split at h
    · rename_i z hl
      obtain ⟨hb, h⟩ := h
      have hb := hb.out
      subst hb
      cases r with
      | cons r1 t => cases t with
        | cons r2 t =>
          cases t; cases r1
          cases r2 with
          | cls ca =>
            refine ⟨_, _, z, rfl, fun u ru => by cases ru; rfl, ht _ _ _ hl ca, ?_, L.here rs (.bl _) h⟩
            rcases xd.go rs.base with ⟨h, _⟩ | ⟨dd, gs, h1, _, h3, _⟩
            · exact .inl h
            · exact .inr ⟨dd, gs, h1, h3⟩
    · exact h.elim
  · exact h.elim
/-! ### isinstance of instances and other things, an own class asked -/
end L3

namespace L3
open PySem PySem.Spec PyProof.Rows L2
theorem forIn_yield {α β : Type} (f : α → β → Sem (ForInStep β)) (g : β → α → β) : ∀ (l : List α) (b : β), (∀ x ∈ l, ∀ b, f x b = pure (.yield (g b x))) → (forIn l b f : Sem β) = pure (l.foldl g b)
  | [], b, _ => by rw [List.forIn_nil]; rfl
  | x :: l, b, h => by
    rw [List.forIn_cons, h x (.head _) b]
    exact forIn_yield f g l (g b x) fun y hy => h y (.tail _ hy)
theorem fold_ext (s : List (Str × Value)) : ∀ (l e : List (Str × Value)), l.foldl (fun (r : List (Str × Value) × List (Str × Value)) x => (r.1, r.2 ++ [(x.1, x.2)])) (s, e) = (s, e ++ l)
  | [], e => by simp
  | x :: l, e => by
    show List.foldl _ (s, e ++ [x]) l = _
    rw [fold_ext s l]; simp
theorem bind_kw {name qual p1 pd : Str} {body : List Stmt} {scope : Scope} {dV kV doc pm cdv ct : Value} {an : Option Addr} {params : Arguments} (h1 : params.posonlyargs = []) (h2 : params.args.map (·.arg) = [p1]) (h3 : params.kwonlyargs = []) (h4 : params.vararg = none) (h5 : params.kwarg.map (·.arg) = some pd) (hd : dV = .none)
    (v : Value) (kw : List (Str × Value)) (hk : ∀ x ∈ kw, (x.1 == p1) = false) (hz : kw.length ≤ sizeLine) :
    bindArgs (PySem.W.fnOf name qual params body scope dV kV doc pm an cdv ct) ⟨[v], kw⟩ =
      (do let d ← (alloc ({ cls := .type "dict", data := .dict #[] } : Obj) : Sem Addr)
          forIn kw PUnit.unit fun x _ => (nsSet d x.1 x.2 >>= fun _ => pure (ForInStep.yield PUnit.unit))
          pure [(p1, v), (pd, .ref d)]) := by
  obtain ⟨po, ar, va, ko, kd, ka, df⟩ := params
  simp only at h1 h2 h3 h4 h5
  subst h1 h3 h4 hd
  obtain ⟨a, rfl⟩ : ∃ a, ar = [a] := by
    cases ar with
    | nil => cases h2
    | cons a r => cases r with
      | nil => exact ⟨a, rfl⟩
      | cons _ _ => simp at h2
  have h2 : a.arg = p1 := by simpa using h2
  subst h2
  cases ka with
  | none => cases h5
  | some ka =>
    have h5 : ka.arg = pd := by simpa using h5
    subst h5
    unfold bindArgs
    simp only [PySem.W.fnOf]
    rw [forIn_yield _ (fun b x => (b.1, b.2 ++ [(x.1, x.2)])) kw _ (fun x hx b => by
      have hc : (([a].map (fun x => x.arg)).contains x.1 || (([] : List Arg).map (fun x => x.arg)).contains x.1) = true → False := fun h => by
        have := hk x hx
        simp at h
        rw [h] at this; simp at this
      rw [if_neg hc]; rfl)]
    rw [fold_ext]
    have hz' : (kw.length > sizeLine + 1) = False := eq_false (by omega)
    have hs : seqItems? Value.none = pure none := rfl
    simp only [pure_bind, List.nil_append, hz', if_false, hs]
    simp [List.lookup]
end L3

namespace L3
open PySem PySem.Spec PyProof.Rows L2 PySem.W
theorem push_upd (hp : Heap) (o : Obj) (f : Obj → Obj) : (hp.push o).update hp.objs.size f = hp.push (f o) := by
  obtain ⟨objs, l⟩ := hp
  show Heap.mk ((objs.push o).modify objs.size f) l = Heap.mk (objs.push (f o)) l
  congr 1
  apply Array.ext
  · simp
  · intro i h1 h2
    rw [Array.getElem_modify]
    by_cases h : objs.size = i
    · subst h; simp
    · have : i < objs.size := by simp at h2; omega
      rw [if_neg h, Array.getElem_push_lt this, Array.getElem_push_lt this]
section
variable {prog : Program} {w : World} {A : Around} {E : Value → Shared → Prop} {hp : Heap} {g : Array GenState} {d : Drawn} {os : OsState}
theorem kw_step {es : List DictEntry} {n tk : Nat} {k : Str} {v : Value} {Q : Unit → Shared → Prop} (hs : ∀ e ∈ es, e.key.isStr k = false) (hr : ∀ e ∈ es, e.refKey = false)
    (h : Q () ⟨hp.push (dictOf (es ++ [⟨PyData.keyHash w.params k, .str k tk, v⟩]) (n + 1)), g, d, tk + 1, os⟩) : wpAny (model prog w) A (nsSet hp.objs.size k v) Q E ⟨hp.push (dictOf es n), g, d, tk, os⟩ := by
  have e1 : es.any (·.key.isStr k) = false := List.any_eq_false.mpr fun e he => by rw [hs e he]; exact Bool.false_ne_true
  have e2 : es.any (·.refKey) = false := List.any_eq_false.mpr fun e he => by rw [hr e he]; exact Bool.false_ne_true
  have e3 : Obj.putName k (PyData.keyHash w.params k) (.str k tk) v (dictOf es n) = dictOf (es ++ [⟨PyData.keyHash w.params k, .str k tk, v⟩]) (n + 1) := by
    rw [putName_dict, putL_new hs]
    unfold putN
    rw [e1, if_neg Bool.false_ne_true]
  have D := Heap.get?_push_size hp (o := dictOf es n) rfl
  have c : aRefKeyMayBeTheName k es.toArray = false := by
    rw [aRefKeyMayBeTheName_at, ← Array.any_toList, ← Array.any_toList]
    show (!es.any (·.key.isStr k) && es.any (·.refKey)) = false
    rw [e2, Bool.and_false]
  unfold nsSet
  refine wpAny_bind (wpAny_bind (wpAny_askSetting (wpAny_pure (wpAny_bind (wpAny_mkText (wpAny_bind (wpAny_loadPart D ?_)))))))
  dsimp only
  rw [c]
  refine wpAny_updatePart D ?_
  rw [push_upd]
  rw [← e3] at h
  exact h
theorem kw_fill : ∀ (ex : List (Str × Value)) (es : List DictEntry) (n tk : Nat) {Q : PUnit → Shared → Prop}, (∀ e ∈ es, ∀ x ∈ ex, e.key.isStr x.1 = false) → (∀ e ∈ es, e.refKey = false) → (ex.map (·.1)).Nodup →
    Q ⟨⟩ ⟨hp.push (dictOf (es ++ kwEs w.params tk ex) (n + ex.length)), g, d, tk + ex.length, os⟩ →
    wpAny (model prog w) A (forIn ex PUnit.unit fun x _ => (nsSet hp.objs.size x.1 x.2 >>= fun _ => pure (ForInStep.yield PUnit.unit))) Q E ⟨hp.push (dictOf es n), g, d, tk, os⟩
  | [], es, n, tk, Q, _, _, _, h => by
    rw [List.forIn_nil]
    have e : es ++ kwEs w.params tk ([] : List (Str × Value)) = es := List.append_nil es
    rw [e] at h
    exact wpAny_pure h
  | x :: r, es, n, tk, Q, hs, hr, hn, h => by
    obtain ⟨hn1, hn2⟩ := List.nodup_cons.mp (show (x.1 :: r.map (·.1)).Nodup from hn)
    rw [List.forIn_cons]
    refine wpAny_bind (wpAny_bind (kw_step (fun e he => hs e he x (.head _)) hr (wpAny_pure ?_)))
    refine kw_fill r _ (n + 1) (tk + 1) (fun e he y hy => ?_) (fun e he => ?_) hn2 ?_
    · rcases List.mem_append.mp he with he | he
      · exact hs e he y (.tail _ hy)
      · obtain rfl := List.mem_singleton.mp he
        exact beq_eq_false_iff_ne.mpr fun q => hn1 (by rw [show x.1 = y.1 from q]; exact List.mem_map_of_mem hy)
    · rcases List.mem_append.mp he with he | he
      · exact hr e he
      · obtain rfl := List.mem_singleton.mp he; rfl
    · rw [List.append_assoc, show n + 1 + r.length = n + (r.length + 1) from by omega, show tk + 1 + r.length = tk + (r.length + 1) from by omega]
      exact h
end
end L3

namespace L3
open PySem PySem.Spec PyProof.Rows L2
/-! ### defs with **fields -/
/-- a promise by the positional values and the keywords' -/
def FnW (P : Program) (w : World) (K : PySem.W.Frag) (mg : Str → Option Value) (base : Heap) (CX : CXT) (k : Nat) (f : Addr) (sp : List V → List (Str × V) → Hp → VK → XK → Prop) : Prop :=
  ∀ (A : Around) (outer : List Env) (s : Shared) (H : Hp) (us : List Value) (vs : List V) (kws : List (Str × Value)) (kvs : List (Str × V)) (Q : VK) (E : XK), Room k A → Env0 P w K mg base A outer s H → Vals vs us → KV kvs kws → sp vs kvs H Q E →
    codeAny (model P w) A (.call (.ref f) ⟨us, kws⟩) (CR CX outer P w H s Q E) s
def keyS (p : Str × V) : Key × V := (Sum.inr p.1, p.2)
theorem kv_len {κ : Type} : ∀ {kvs : List (κ × V)} {kws : List (κ × Value)}, KV kvs kws → kvs.length = kws.length := fun h => Paired.length h
theorem kv_names : ∀ {kvs : List (Str × V)} {kws : List (Str × Value)}, KV kvs kws → kvs.map (·.1) = kws.map (·.1)
  | _, _, .nil => rfl
  | _, _, .cons a r => by
    rw [List.map_cons, List.map_cons, kv_names r, a.1]
theorem kv_keys : ∀ {kvs : List (Str × V)} {kws : List (Str × Value)}, KV kvs kws → KV (kvs.map keyS) (kws.map fun p => ((Sum.inr p.1 : Key), p.2))
  | _, _, .nil => .nil
  | _, _, .cons a r => .cons ⟨by show Sum.inr _ = Sum.inr _; rw [a.1], a.2⟩ (kv_keys r)
theorem kw_pairs {P : Program} {w : World} : ∀ (ex : List (Str × Value)) (t : Tok), Pairs (mixKind P w) (PySem.W.kwEs w.params t ex) (ex.map fun p => ((Sum.inr p.1 : Key), p.2))
  | [], _ => Pairs.nil
  | x :: r, t => Pairs.cons (keyIs_str x.1 t) rfl (kw_pairs r (t + 1))
theorem kw_dict {P : Program} {w : World} {H : Hp} {hp : Heap} {ex : List (Str × Value)} {kvs : List (Str × V)} (t n : Nat) (hb : sysModules < hp.objs.size) (r : KV kvs ex) (hn : (ex.map (·.1)).Nodup) (hz : ex.length ≤ sizeLine) :
    ObjOk P w H (hp.push (PySem.W.dictOf (PySem.W.kwEs w.params t ex) n)) hp.objs.size (.dK (kvs.map keyS)) := by
  refine ⟨by rw [List.length_map, kv_len r]; exact hz, beq_eq_false_iff_ne.mpr (Ne.symm (Nat.ne_of_lt hb)), _, kv_keys r, _, (PySem.W.kwEs w.params t ex).toArray, n, Heap.get?_push_size _ rfl, ⟨rfl, rfl, rfl⟩, rfl, fun e he => ?_, kw_pairs ex t, ?_⟩
  · obtain ⟨k, u, hk, hh⟩ := PySem.W.kwEs_key ex t e (List.mem_toArray.mp he)
    exact ⟨Sum.inr k, by rw [hk]; exact keyIs_str k u, hh.trans rfl⟩
  · rw [List.map_map]
    have e : (ex.map ((fun p : Key × Value => p.1) ∘ fun p => ((Sum.inr p.1 : Key), p.2))) = (ex.map (·.1)).map Sum.inr := by rw [List.map_map]; rfl
    rw [e]
    exact List.Pairwise.map _ (fun a b h z => h (Sum.inr.inj z)) hn
section
variable {CX : CXT} {P : Program} {w : World} {K : PySem.W.Frag} {mg : Str → Option Value} {base : Heap} {k : Nat} {f : Addr} {name qual : Str} {params : Arguments} {body : List Stmt} {scope : Scope} {kV doc pm cdv ct oc : Value} {an od : Option Addr}
  {osl : Array (Option Value)} {N : List Str} {p1 pd : Str} {sp : Sp}
theorem fn_kwd (lk : K.lookup f = some ⟨oc, od, .func (PySem.W.fnOf name qual params body scope .none kV doc pm an cdv ct), osl⟩) (hcd : PySem.W.codeIn K cdv qual = true) (S : FnScope N [p1, pd] scope) (hCX : StX.CXUp CX)
    (h1 : params.posonlyargs = []) (h2 : params.args.map (·.arg) = [p1]) (h3 : params.kwonlyargs = []) (h4 : params.vararg = none) (h5 : params.kwarg.map (·.arg) = some pd)
    (hbody : ∀ (A : Around) (outer : List Env) (s : Shared) (H : Hp) (vs : List V) (Q : VK) (E : XK), Room k (A.deeper (envOfC qual scope s.heap.objs.size f cdv)) → sp vs H Q E →
      ∃ t, PSs (cxOf CX P w K mg base N qual scope f cdv A outer s H E) body t ∧ t { nx := fun _ H' => Q .non H', rt := Q } (start N vs) H) :
    FnW P w K mg base CX (k + 1) f (fun vs kvs H Q E => ∃ v, vs = [v] ∧ (kvs.map (·.1)).Nodup ∧ (∀ x ∈ kvs, (x.1 == p1) = false) ∧ kvs.length ≤ sizeLine ∧ ∀ d, H d = Option.none → sp [v, .ref d] (upd H d (.dK (kvs.map keyS))) Q E) := by
  intro A outer s H us vs kws kvs Q E hr e0 r rk hsp
  obtain ⟨v, rfl, hn, hne, hz, hq⟩ := hsp
  obtain ⟨u, rfl, ru⟩ : ∃ u, us = [u] ∧ RelV v u := by
    cases r with
    | cons a t => cases t; exact ⟨_, rfl, a⟩
  have hnm := kv_names rk
  have hn' : (kws.map (·.1)).Nodup := by rw [← hnm]; exact hn
  have hz' : kws.length ≤ sizeLine := by rw [← kv_len rk]; exact hz
  have hne' : ∀ x ∈ kws, (x.1 == p1) = false := fun x hx => by
    have : x.1 ∈ kvs.map (·.1) := by rw [hnm]; exact List.mem_map_of_mem hx
    obtain ⟨y, hy, e⟩ := List.mem_map.mp this
    rw [← show y.1 = x.1 from e]; exact hne y hy
  have hd : H s.heap.objs.size = Option.none := e0.hok.fresh (Nat.le_refl _)
  refine StX.run_bnd (ps := [p1, pd]) lk hcd S hr e0 (G := fun xs H2 => ∃ d, H d = Option.none ∧ xs = [v, V.ref d] ∧ H2 = upd H d (.dK (kvs.map keyS))) (fun A' Ex Q' h => ?_) fun s2 H2 xs ⟨d, hd, ex, eH⟩ hr' => ?_
  · rw [bind_kw h1 h2 h3 h4 h5 rfl u kws hne' hz']
    obtain ⟨hp, g, dr, tk, os⟩ := s
    refine wpAny_bind (wpAny_alloc (wpAny_bind (kw_fill kws [] 0 tk (fun _ z => nomatch z) (fun _ z => nomatch z) hn' (wpAny_pure ?_))))
    have new := kw_dict (P := P) (w := w) (H := upd H hp.objs.size (.dK (kvs.map keyS))) (hp := hp) tk (0 + kws.length) (StX.env0_big e0) rk hn' hz'
    have e1 : Env0 P w K mg base A outer ⟨hp.push (PySem.W.dictOf (PySem.W.kwEs w.params tk kws) (0 + kws.length)), g, dr, tk, os⟩ (upd H hp.objs.size (.dK (kvs.map keyS))) := StX.env0_laid (s := ⟨hp, g, dr, tk, os⟩) e0 new
    have e2 : Env0 P w K mg base A outer ⟨hp.push (PySem.W.dictOf (PySem.W.kwEs w.params tk kws) (0 + kws.length)), g, dr, tk + kws.length, os⟩ (upd H hp.objs.size (.dK (kvs.map keyS))) := ⟨e1.frames, e1.mod, e1.bs, e1.bsz, e1.funs, e1.frf, e1.hok, e1.bare⟩
    have un := StX.un_laid (fs := frs outer) (s := ⟨hp, g, dr, tk, os⟩) (o := PySem.W.dictOf (PySem.W.kwEs w.params tk kws) (0 + kws.length)) (u := .dK (kvs.map keyS)) hd
    exact h ⟨hp.push (PySem.W.dictOf (PySem.W.kwEs w.params tk kws) (0 + kws.length)), g, dr, tk + kws.length, os⟩ _ [v, V.ref hp.objs.size] [u, Value.ref hp.objs.size] e2 un rfl
      (fun e s' => hCX outer ⟨hp, g, dr, tk, os⟩ H _ _ E e s' un (fun b o q => Heap.get?_push_of_some _ q) rfl) (.cons ru (.cons rfl .nil)) rfl ⟨_, hd, rfl, rfl⟩
  · subst ex eH
    exact hbody A outer s2 _ _ Q E hr' (hq d hd)
end
end L3

namespace L3
open PySem PySem.Spec PyProof.Rows L2
section
variable {M : Model} {A : Around} {E : Value → Shared → Prop} {s : Shared} {f : Value} {x : Sem Value}
theorem merged_1 {Q : Addr → Shared → Prop} (h : wpAny M A x (fun v s1 => wpAny M A (mergeMapping s.heap.objs.size v true) (fun _ s2 => Q s.heap.objs.size s2) (fun _ _ => False) s1) E { s with heap := s.heap.push (PySem.W.dictOf [] 0) }) :
    wpAny M A (mergedKeywords f [(none, x)]) Q E s := by
  unfold mergedKeywords
  refine wpAny_bind (wpAny_alloc ?_)
  refine wpAny_bind (wpAny_holding ?_)
  refine wpAny_bind ?_
  rw [List.forIn_cons]
  refine wpAny_bind ?_
  show wpAny M A (x >>= fun v => _ >>= fun _ => _) _ E _
  refine wpAny_bind (wpAny_mono h (fun v s1 h1 => ?_) fun _ _ z => z)
  refine wpAny_bind ?_
  refine wpAny_onRaise (wpAny_holding (wpAny_tryCatch (wpAny_onRaise ?_)))
  refine wpAny_mono h1 (fun _ s2 h2 => ?_) fun e s2 z => ?_
  · refine wpAny_pure ?_
    show wpAny M A (forIn ([] : List (Option Str × Sem Value)) _ _) _ _ _
    rw [List.forIn_nil]
    exact wpAny_pure (wpAny_pure (wpAny_pure h2))
  · exact z.elim
end
section
variable {prog : Program} {w : World} {A : Around} {E : Value → Shared → Prop} {s : Shared}
theorem pairs_at {prog : Program} {w : World} : ∀ {es : List DictEntry} {kvs : List (Key × Value)}, Pairs (mixKind prog w) es kvs → ∀ (i : Nat) (e : DictEntry), es[i]? = some e → ∃ p, kvs[i]? = some p ∧ (mixKind prog w).is p.1 e.key = true ∧ e.val = p.2
  | _, _, .nil, i, e, h => by cases h
  | _, _, .cons (kv := kv) a b r, 0, e, h => by cases h; exact ⟨kv, rfl, a, b⟩
  | _, _, .cons a b r, i + 1, e, h => pairs_at r i e h
theorem merge_step {d : Addr} {es : Array DictEntry} {kvs : List (Key × Value)} {i n : Nat} {e : DictEntry} {Q : Unit → Shared → Prop} (hd : s.heap.get? d = some (PySem.W.dictOf (es.toList.take i) n)) (hp : Pairs (mixKind prog w) es.toList kvs) (hks : KeysOf (mixKind prog w) es) (hn : (kvs.map (·.1)).Nodup)
    (hz : es.size ≤ 1000) (he : es.toList[i]? = some e)
    (hQ : ∀ h' n', (∀ b o, b ≠ d → s.heap.get? b = some o → h'.get? b = some o) → h'.get? d = some (PySem.W.dictOf (es.toList.take (i + 1)) n') → Q () { s with heap := h' }) :
    wpAny (model prog w) A (do
      let z ← dictFind d e.key e.hash
      if z.isSome = true then do
          rule "dict.merge.duplicate-key"
          let z ← newExc (Value.type "KeyError") [e.key]
          raiseNew z
          dictPut d e.hash e.key e.val
        else dictPut d e.hash e.key e.val) Q E s := by
  obtain ⟨p, hpi, hk, hv⟩ := pairs_at hp i e he
  have hem : e ∈ es := Array.mem_toList_iff.mp (List.mem_of_getElem? he)
  obtain ⟨k', hk', hh⟩ := hks e hem
  have ek : k' = p.1 := (mixKind prog w).inj _ _ _ hk' hk
  subst ek
  have hko : KeysOf (mixKind prog w) (es.toList.take i).toArray := fun x hx => hks x (Array.mem_toList_iff.mp (List.mem_of_mem_take (List.mem_toArray.mp hx)))
  have hno : (es.toList.take i).toArray.findIdx? (fun x => (mixKind prog w).is p.1 x.key) = none := by
    rw [List.findIdx?_toArray, List.findIdx?_eq_none_iff]
    intro x hx
    obtain ⟨j, hj⟩ := List.mem_iff_getElem?.mp hx
    have hji : j < i := by
      have := (List.getElem?_eq_some_iff.mp hj).1
      simp at this; omega
    have hj' : es.toList[j]? = some x := by rw [List.getElem?_take_of_lt hji] at hj; exact hj
    obtain ⟨q, hqj, hq, _⟩ := pairs_at hp j x hj'
    cases hz : (mixKind prog w).is p.1 x.key with
    | false => rfl
    | true =>
      exfalso
      have eq : p.1 = q.1 := (mixKind prog w).inj _ _ _ hz hq
      have n1 : (kvs.map (·.1))[i]? = some p.1 := by rw [List.getElem?_map, hpi]; rfl
      have n2 : (kvs.map (·.1))[j]? = some p.1 := by rw [List.getElem?_map, hqj, eq]; rfl
      have := (List.getElem?_inj (by exact (List.getElem?_eq_some_iff.mp n1).1) hn).mp (n1.trans n2.symm)
      omega
  rw [hh]
  refine wpAny_bind (wpAny_dictFind_of hk hd rfl hko ?_)
  rw [hno, if_neg (by simp)]
  unfold dictPut
  refine wpAny_bind (wpAny_dictFind_of hk hd rfl hko ?_)
  rw [hno]
  have hl : (es.toList.take i).length ≤ sizeLine := by
    rw [List.length_take, Array.length_toList]
    exact Nat.le_trans (Nat.min_le_right _ _) (Nat.le_trans hz (by decide))
  refine wpAny_updateDictKeys hd rfl ?_ (by simpa using hl) (by simp)
  have tk : es.toList.take (i + 1) = es.toList.take i ++ [e] := by rw [List.take_add_one, he]; rfl
  refine hQ _ (n + 1) (fun b o hb h => by rw [Heap.get?_update_other _ _ (Ne.symm hb)]; exact h) ?_
  rw [Heap.get?_update_self _ hd rfl, tk, ← hh]
  simp [Obj.mapDictKeys, PySem.W.dictOf]
theorem merge_dict {a d : Addr} {o : Obj} {es : Array DictEntry} {ep : Nat} {kvs : List (Key × Value)} {Q : Unit → Shared → Prop} (ho : s.heap.get? a = some o) (hx : o.ExactDict) (hd0 : o.data = .dict es ep) (hne : a ≠ d) (hsys : (a == sysModules) = false) (hd : s.heap.get? d = some (PySem.W.dictOf [] 0))
    (hp : Pairs (mixKind prog w) es.toList kvs) (hks : KeysOf (mixKind prog w) es) (hn : (kvs.map (·.1)).Nodup) (hz : es.size ≤ 1000)
    (hQ : ∀ h' n, (∀ b o, b ≠ d → s.heap.get? b = some o → h'.get? b = some o) → h'.get? d = some (PySem.W.dictOf es.toList n) → Q () { s with heap := h' }) : wpAny (model prog w) A (mergeMapping d (.ref a) true) Q E s := by
  have hT : s.TypeIs (.ref a) "dict" := ⟨o, ho, hx.1⟩
  have hsub : isSubtype (.type "dict") (.type "dict") = pure true := by rw [isSubtype_type]; kernel_rfl
  unfold mergeMapping
  refine wpAny_bind (wpAny_isInstance (T := "dict") (b := true) hT hsub ?_)
  show wpAny _ _ (specialOf (.ref a) "__iter__" >>= _) _ _ _
  refine wpAny_bind (wpAny_specialOf hT F.slot_dict_iter.lookup ?_)
  have hb : (some (Value.builtin "dict.__iter__") == some (.builtin "dict.__iter__")) = true := by decide +kernel
  rw [hb]
  refine wpAny_bind (wpAny_pure ?_)
  dsimp only
  rw [hsys, if_neg Bool.false_ne_true]
  refine wpAny_bind (wpAny_dictEntries hd rfl ?_)
  rw [if_pos (by rfl)]
  refine wpAny_bind (wpAny_dictEntries ho hd0 ?_)
  refine wpAny_bind ?_
  rw [← Array.forIn_toList]
  rw [forIn_yield _ (fun b _ => b) es.toList _ (fun e he b => by
    obtain ⟨i, hi⟩ := List.mem_iff_getElem?.mp he
    obtain ⟨p, _, hk, _⟩ := pairs_at hp i e hi
    rcases keyIs_shape (show keyIs p.1 e.key = true from hk) with ⟨_, _, _, h⟩ | ⟨_, _, _, h⟩ <;> (rw [h]; try rfl))]
  refine wpAny_pure ?_
  refine wpAny_bind (wpAny_dictEntries ho hd0 (wpAny_bind (wpAny_dictEpoch ho hd0 ?_)))
  refine wpAny_bind ?_
  rw [List.range_eq_range']
  have main : ∀ (k i n : Nat) (h : Heap), i + k = es.size → h.get? a = some o → (∀ b u, b ≠ d → s.heap.get? b = some u → h.get? b = some u) → h.get? d = some (PySem.W.dictOf (es.toList.take i) n) →
      wpAny (model prog w) A (forIn (List.range' i k) PUnit.unit fun i _ => do
          let z ← dictEntries a
          match z[i]? with
            | some e => do
              holding [e.key, e.val]
                  (if true = true then do
                    let z ← dictFind d e.key e.hash
                    if z.isSome = true then do
                        rule "dict.merge.duplicate-key"
                        let z ← newExc (Value.type "KeyError") [e.key]
                        raiseNew z
                        dictPut d e.hash e.key e.val
                      else dictPut d e.hash e.key e.val
                  else dictPut d e.hash e.key e.val)
              let z ← dictEpoch a
              if (z != ep) = true then do
                  unsupported "dict.changed-during-merge"
                  pure (ForInStep.yield PUnit.unit)
                else pure (ForInStep.yield PUnit.unit)
            | x => do
              unsupported "dict.changed-during-merge"
              pure (ForInStep.yield PUnit.unit)) (fun _ s' => Q () s') E { s with heap := h } := by
    intro k
    induction k with
    | zero =>
      intro i n h hi ha keep hd
      rw [show List.range' i 0 = [] from rfl, List.forIn_nil]
      rw [List.take_of_length_le (by simp; omega)] at hd
      exact wpAny_pure (hQ h n keep hd)
    | succ k ih =>
      intro i n h hi ha keep hd
      have hlt : i < es.size := by omega
      rw [List.range'_succ, List.forIn_cons]
      refine wpAny_bind (wpAny_bind (wpAny_dictEntries ha hd0 ?_))
      rw [Array.getElem?_eq_getElem hlt]
      dsimp only
      have he : es.toList[i]? = some es[i] := by simp [hlt]
      refine wpAny_bind (wpAny_holding (merge_step (s := { s with heap := h }) hd hp hks hn hz he fun h' n' keep' hd' => ?_))
      refine wpAny_bind (wpAny_dictEpoch (s := { s with heap := h' }) (keep' a o hne ha) hd0 ?_)
      rw [if_neg (by simp)]
      exact wpAny_pure (ih (i + 1) n' h' (by omega) (keep' a o hne ha) (fun b u hb hu => keep' b u hb (keep b u hb hu)) hd')
  exact wpAny_mono (main es.size 0 0 s.heap (by omega) ho (fun _ _ _ h => h) hd) (fun _ _ h => wpAny_pure h) fun _ _ z => z
/-- the keywords that such a dict hands on -/
theorem kw_of {f : Value} {d : Addr} {es : List DictEntry} {n : Nat} {kws : List (Str × Value)} {Q : List (Str × Value) → Shared → Prop} (hd : s.heap.get? d = some (PySem.W.dictOf es n)) (hk : ∀ e ∈ es, ∃ k t, e.key = .str k t)
    (he : kws = es.map fun e => (match e.key with | .str k _ => k | _ => Str.empty, e.val)) (hQ : Q kws s) : wpAny (model prog w) A (keywordsIn f d) Q E s := by
  unfold keywordsIn
  refine wpAny_bind (wpAny_dictEntries hd rfl ?_)
  refine wpAny_bind ?_
  rw [← Array.forIn_toList]
  rw [forIn_yield _ (fun (b : List (Str × Value)) (e : DictEntry) => b ++ [(match e.key with | .str k _ => k | _ => Str.empty, e.val)]) _ _ (fun e he b => by
    obtain ⟨k, t, h⟩ := hk e (by simpa using he)
    rw [h])]
  refine wpAny_pure (wpAny_pure ?_)
  have fl : ∀ (l : List DictEntry) (b : List (Str × Value)), l.foldl (fun (b : List (Str × Value)) (e : DictEntry) => b ++ [(match e.key with | .str k _ => k | _ => Str.empty, e.val)]) b = b ++ l.map fun e => (match e.key with | .str k _ => k | _ => Str.empty, e.val) := by
    intro l
    induction l with
    | nil => intro b; simp
    | cons x l ih => intro b; rw [List.foldl_cons, ih]; simp
  rw [fl, List.nil_append]
  subst he
  exact hQ
end
end L3

namespace L3
open PySem PySem.Spec PyProof.Rows L2
section
variable {prog : Program} {w : World} {A : Around} {E : Value → Shared → Prop} {s : Shared} {f : Value} {x : Sem Value}
theorem args_W {Q : Args → Shared → Prop} (h : wpAny (model prog w) A (mergedKeywords f [(none, x)]) (fun d s1 => wpAny (model prog w) A (keywordsIn f d) (fun kw s2 => Q ⟨[], kw⟩ s2) E s1) E s) : wpAny (model prog w) A (evalArgs f true [] [(none, x)]) Q E s := by
  unfold evalArgs
  show wpAny _ _ (spliced [] >>= _) _ _ _
  refine wpAny_bind (PySem.Calls.spliced_nil ?_)
  refine wpAny_bind (wpAny_pure ?_)
  refine wpAny_holding ?_
  show wpAny _ _ (mergedKeywords f [(none, x)] >>= _) _ _ _
  refine wpAny_bind (wpAny_mono h (fun d s1 h1 => ?_) fun _ _ z => z)
  refine wpAny_bind (wpAny_pure ?_)
  refine wpAny_bind (wpAny_holding (wpAny_mono h1 (fun kw s2 h2 => wpAny_pure h2) fun _ _ z => z))
theorem call_W {K : PySem.W.Frag} {first : List Value} {pos : Pos} {Q : Value → Shared → Prop} (hk : PySem.W.keepIn K f = true) (h : wpAny (model prog w) A (evalArgs f true [] [(none, x)]) (fun a s1 => K.In s1.heap ∧ wpAny (model prog w) A (call f (first ++ a.pos) a.kw) Q E s1) E s) :
    wpAny (model prog w) A (callWith pos f first [] [(none, x)]) Q E s := by
  unfold callWith
  refine wpAny_bind (wpAny_holding (wpAny_mono h (fun a s1 h1 => wpAny_bind (wpAny_standAt ?_)) fun _ _ z => z))
  obtain ⟨k, hk', L⟩ := PySem.W.keeps_K (M := model prog w) hk _ h1.1
  refine wpAny_bind (L.here ?_)
  have tail : ∀ {t : Sem Value}, wpAny (model prog w) A t Q E s1 → wpAny (model prog w) A (t >>= fun r => holding [r] point >>= fun _ => pure r) Q E s1 :=
    fun ht => wpAny_bind (wpAny_mono ht (fun r s2 hr => wpAny_bind (wpAny_holding (wpAny_point (wpAny_pure hr)))) fun _ _ z => z)
  have marked (mk : Value) : wpAny (model prog w) A (callMarked mk f (first ++ a.pos) a.kw) Q E s1 := by unfold callMarked; exact Calls.wpAny_keep h1.2
  rcases hk' with rfl | rfl | rfl <;> dsimp only <;> first | exact tail (marked _) | exact tail (wpAny_operating h1.2)
end
end L3

namespace L3
open PySem PySem.Spec PyProof.Rows L2
section
variable {X : Cx} {CX : CXT} {k : Nat} {f C : Addr} {E : XK}
theorem make_atW {sp : List V → List (Str × V) → Hp → VK → XK → Prop} {pins : List (Addr × Obj)} {σ : L2.St} {H : Hp} {s : Shared} {Q : VK} {us : List Value} {vs : List V} {kvs : List (Str × V)} {kws : List (Str × Value)} (M : Mk X.K C f) (F : FnW X.prog X.w X.K X.mg X.base CX k f sp)
    (hr : Room (k + 1) X.A) (hx : PassesAt CX X σ E) (I : Inv X pins σ H s) (r : Vals vs us) (rk : KV kvs kws)
    (h : ∀ x dx, H x = none → H dx = none → dx ≠ x → sp (V.ref x :: vs) kvs (upd (upd H dx (.own x)) x (.ins C dx [])) (fun v H2 => v = .non ∧ Q (.ref x) H2) E) :
    wpAny (model X.prog X.w) X.A (call (.ref C) us kws) (EP X pins σ Q) X.xe s := by
  have hq := h (s.heap.objs.size + 1) s.heap.objs.size (I.hok.fresh (Nat.le_succ _))
    (I.hok.fresh (Nat.le_refl _)) (Nat.ne_of_lt (Nat.lt_succ_self _))
  have J := Inv.made (C := C) I
  have r2 : Vals (V.ref (s.heap.objs.size + 1) :: vs)
      (Value.ref (s.heap.objs.size + 1) :: us) := .cons rfl r
  refine wpAny_call (make_map (f := f) I.kIn M.makes M.init (beq_iff_eq.mp M.fn) (codeAny_mono (F _ X.stack _ _ _ _ kws kvs _ E (hr.make C us kws) (J.env0.make C us kws) r2 rk hq) fun r s' hq' => ?_))
  match r, hq' with
  | .error e, hq' => exact hx pins _ _ e s' J hq'
  | .ok (.ret u), hq' =>
    obtain ⟨v, H', I3, rv, ev, q3⟩ := J.after hq'
    subst ev
    exact ⟨rv, V.ref (s.heap.objs.size + 1), H', I3, rfl, q3⟩
  | .ok .next, hq' => exact hq'.elim
  | .ok .brk, hq' => exact hq'.elim
  | .ok .cont, hq' => exact hq'.elim
end
theorem kv_fst {κ : Type} : ∀ {kvs : List (κ × V)} {vs : List (κ × Value)}, KV kvs vs → kvs.map (·.1) = vs.map (·.1)
  | _, _, .nil => rfl
  | _, _, .cons a t => by rw [List.map_cons, List.map_cons, kv_fst t, a.1]
theorem kw_rel {P : Program} {w : World} : ∀ {kvs : List (Key × V)} {vs : List (Key × Value)} {es : List DictEntry}, KV kvs vs → Pairs (mixKind P w) es vs → (∀ p ∈ kvs, ∃ k, p.1 = Sum.inr k) →
    ∃ ks : List (Str × V), ks.map keyS = kvs ∧ KV ks (es.map fun e => (match e.key with | .str k _ => k | _ => Str.empty, e.val)) ∧ ∀ e ∈ es, ∃ k t, e.key = .str k t
  | [], _, _, .nil, .nil, _ => ⟨[], rfl, .nil, fun _ h => nomatch h⟩
  | p :: r, _, _, .cons (b := q) a t, .cons (e := e) hk hv u, h => by
    obtain ⟨ks, h1, h2, h3⟩ := kw_rel t u fun x hx => h x (.tail _ hx)
    obtain ⟨k, hp⟩ := h p (.head _)
    have hq : q.1 = Sum.inr k := a.1.symm.trans hp
    rw [hq] at hk
    rcases keyIs_shape (show keyIs (Sum.inr k) e.key = true from hk) with ⟨_, _, z, _⟩ | ⟨y, t', z, he⟩
    · cases z
    · cases z
      obtain ⟨p1, p2⟩ := p
      subst hp
      refine ⟨(k, p2) :: ks, by rw [List.map_cons, h1]; rfl, .cons ⟨by show k = (match e.key with | .str k _ => k | _ => Str.empty); rw [he], by show RelV p2 e.val; rw [hv]; exact a.2⟩ h2, fun x hx => ?_⟩
      rcases List.mem_cons.mp hx with rfl | hx
      · exact ⟨k, t', he⟩
      · exact h3 x hx
section
variable {X : Cx} {CX : CXT} {k i : Nat} {f C : Addr} {E : L2.St → XK} {x y : Str} {p p2 pos : Pos}
/-- C(**y), y the i-th slot, a dict with text keys -/
def tMkS (C : Addr) (sp : List V → List (Str × V) → Hp → VK → XK → Prop) (E : L2.St → XK) (i : Nat) : TE := fun σ H Q => ∃ a kvs, σ[i]? = some (some (.ref a)) ∧ H a = some (.dK kvs) ∧ kvs.length ≤ 1000 ∧ (∀ p ∈ kvs, ∃ k, p.1 = Sum.inr k) ∧
  ∀ ks : List (Str × V), ks.map keyS = kvs → (ks.map (·.1)).Nodup → ∀ x dx, H x = none → H dx = none → dx ≠ x → sp [V.ref x] ks (upd (upd H dx (.own x)) x (.ins C dx [])) (fun v H2 => v = .non ∧ Q (.ref x) H2) (E σ)
theorem mkS_at {sp : List V → List (Str × V) → Hp → VK → XK → Prop} {pins : List (Addr × Obj)} {σ : L2.St} {H : Hp} {s : Shared} {Q : VK} {kpos : Pos} (M : Mk X.K C f) (F : FnW X.prog X.w X.K X.mg X.base CX k f sp) (hr : Room (k + 1) X.A) (hx : PassesAt CX X σ (E σ)) (hN : X.N[i]? = some y) (hv : Vis X.env.scope y)
    (I : Inv X pins σ H s) (h : tMkS C sp E i σ H Q) (hdb : (y == ("__debug__" : Str)) = false := by decide) (hcd : (y == ("__classdict__" : Str)) = false := by decide) :
    wpAny (model X.prog X.w) X.A (callWith pos (.ref C) [] (backTo pos (starEach [] X.env)) (backToKw pos (keywordEach [⟨none, .Name y p2, kpos⟩] X.env))) (EP X pins σ Q) X.xe s := by
  obtain ⟨a, kvs, hs, ha, hz, hin, hq⟩ := h
  show wpAny _ _ (callWith pos (.ref C) [] [] [(none, _)]) _ _ _
  refine call_W (K := X.K) M.kp (args_W (merged_1 ?_))
  have I1 := ClX.pin_new (o := PySem.W.dictOf [] 0) (t' := s.toks) I (fun _ _ z => Heap.get?_push_of_some _ z) (Nat.le_refl _) (Heap.get?_push_size s.heap rfl) (fun v z => nomatch z)
  refine wpAny_bind (wpAny_mono ((pe_var (pos := p2) hN hv hdb hcd).run _ _ σ H (fun v H1 => v = .ref a ∧ H1 = H) I1 ⟨.ref a, hs, rfl, rfl⟩) (fun u s1 ⟨v, H1, I2, r1, e1, e2⟩ => wpAny_bind (wpAny_standAt (wpAny_pure ?_))) fun _ _ z => z)
  subst e1 e2
  cases r1
  have hd := ClX.pin_at I2
  have hdn := ClX.pin_un I2
  obtain ⟨hl, hsys, vs, kv, o, es, ep, ho, hxd, hdat, hks, hp, hnd⟩ := (show ObjOk X.prog X.w H1 s1.heap a (.dK kvs) from I2.hok a _ ha)
  have hne : a ≠ s.heap.objs.size := fun z => by
    dsimp only at hdn
    rw [← z, ha] at hdn; cases hdn
  obtain ⟨ks, k1, k2, k3⟩ := kw_rel kv hp hin
  have hes : es.size ≤ 1000 := by
    have a1 := hp.length
    have a2 := kv_len kv
    rw [Array.length_toList] at a1
    omega
  refine merge_dict ho hxd hdat hne hsys hd hp hks hnd hes fun h' n keep hd' => ?_
  refine kw_of (s := { s1 with heap := h' }) hd' k3 rfl ?_
  have J0 := ClX.unpin I2
  have fp := I.fpOk (H' := H1) (Nat.le_refl _) hdn
  obtain ⟨f0, f1, f2, f3, f4, f5⟩ := fp
  have J : Inv X pins σ H1 { s1 with heap := h' } := J0.turned (t' := s1.toks) (it := s.heap.objs.size) (fun b o hb q => keep b o hb q) f0 f1 f3 f4 f5
  refine ⟨J.kIn, ?_⟩
  have hn : (ks.map (·.1)).Nodup := by
    have e : kvs.map (·.1) = vs.map (·.1) := kv_fst kv
    rw [← e, ← k1, List.map_map] at hnd
    have : (ks.map ((fun p : Key × V => p.1) ∘ keyS)) = (ks.map (·.1)).map Sum.inr := by rw [List.map_map]; rfl
    rw [this] at hnd
    exact List.Pairwise.of_map Sum.inr (fun a b h z => h (by rw [z])) hnd
  exact make_atW M F hr hx J .nil k2 (hq ks k1 hn)
end
end L3

namespace L3
open PySem PySem.Spec PyProof.Rows L2
/-! ### over data -/
/-- what an __init__(self, **fields) promises: dsp of the object and its dict of keywords -/
def spKw (K : PySem.W.Frag) (p1 : Str) (dsp : DSp) : List V → List (Str × V) → Hp → VK → XK → Prop := fun vs kvs H Q E =>
  ∃ v, vs = [v] ∧ (kvs.map (·.1)).Nodup ∧ (∀ x ∈ kvs, (x.1 == p1) = false) ∧ kvs.length ≤ sizeLine ∧ ∀ d, H d = Option.none → toSp K dsp [v, .ref d] (upd H d (.dK (kvs.map keyS))) Q E
section
variable {P : Program} {w : World} {K : PySem.W.Frag} {mg : Str → Option Value} {base : Heap}
theorem dfnK {x qual p1 pd : Str} {st : Stmt} {f : Addr} {fd : FuncData} {N : List Str} {k : Nat} {sp : DSp} {wb : RXe → WS} (F : Fun K x qual st f fd) (S : FnScope N [p1, pd] (defScope st))
    (h1 : (defArgs st).posonlyargs = []) (h2 : (defArgs st).args.map (·.arg) = [p1]) (h3 : (defArgs st).kwonlyargs = []) (h4 : (defArgs st).vararg = none) (h5 : (defArgs st).kwarg.map (·.arg) = some pd)
    (body : ∀ (cdv : Value) (A : Around) (outer : List Env) (s : Shared) (H : Hp) (E : XK), Room k (A.deeper (envOfC qual (defScope st) s.heap.objs.size f cdv)) → ∀ (B : Bs) (RX : RXe), Takes (cxOf (L2.CX P w) P w K mg base N qual (defScope st) f cdv A outer s H E) (WL K B RX) → DSs B (cxOf (L2.CX P w) P w K mg base N qual (defScope st) f cdv A outer s H E) (defBody st) (wb RX))
    (hw : ∀ ds M R RX, sp ds M R RX → M.all (cellOk M.length) = true → noCels M.length ds = true → wb (fun nm fs _ M' => rxF M.length RX nm fs M') (fnEnds M.length R) (startE N.length ds) M) :
    FnW P w K mg base (L2.CX P w) (k + 1) f (spKw K p1 sp) := by
  obtain ⟨oc, od, kV, doc, pm, an, cdv, ct, osl, rfl, lk, hcd⟩ := F.ex
  exact fn_kwd lk hcd S StX.cxUp h1 h2 h3 h4 h5 fun A outer s H vs Q E hr h => bodyX h (fun B RX => body cdv A outer s H E hr B RX) hw
end
section
variable {X : Cx} {B : Bs} {CX : CXT} {k i j : Nat} {f C : Addr} {sp : DSp} {n x y p1 : Str} {p p2 kpos pos : Pos} {was : WA} {RX : RXe} {kws : List Keyword} {names : List Str}
theorem keys_nth {K : PySem.W.Frag} {P : Hp} {al : List Addr} : ∀ {ks : List (Key × D)} {kvs : List (Key × V)}, RepKs K P al ks kvs → ks.map (·.1) = kvs.map (·.1)
  | _, _, .nil => rfl
  | _, _, .cons _ t => by rw [List.map_cons, List.map_cons, keys_nth t]
theorem mk_spW {K : PySem.W.Frag} {P : Hp} {al : List Addr} {M : Mt} {env : Ev} {σ : L2.St} {H : Hp} {R : D → Mt → Prop} {Q : VK} {ks : List (Key × D)} {kvs : List (Str × V)} {a dx : Addr} (ca : ClsAt K n C) (rs : RS K B P al M env σ H) (rk : RepKs K P al ks (kvs.map keyS)) (L : Lift K B P al env σ H R Q)
    (hx : H a = none) (hd : H dx = none) (ne : dx ≠ a) (hn : (kvs.map (·.1)).Nodup) (hp : ∀ z ∈ kvs, (z.1 == p1) = false) (hz : kvs.length ≤ sizeLine) (h : sp [.cel M.length, .dct ks] (M ++ [.obj n []]) (fun d M2 => d = .non ∧ mkEnd M R M2) fun n fs M' => RX n fs env M') :
    spKw K p1 sp [V.ref a] kvs (upd (upd H dx (.own a)) a (.ins C dx [])) (fun v H2 => v = .non ∧ Q (.ref a) H2) (L2.WE (WL K B RX) σ) := by
  refine ⟨_, rfl, hn, hp, hz, fun d hd' => ?_⟩
  have n1 : d ≠ a := fun z => by rw [z, upd_same] at hd'; cases hd'
  have n2 : d ≠ dx := fun z => by rw [z, upd_ne ne, upd_same] at hd'; cases hd'
  have h0 : H d = none := by rw [upd_ne n1, upd_ne n2] at hd'; exact hd'
  obtain ⟨e1, r1⟩ := rs.toRS0.alloc h0 (.dK (kvs.map keyS))
  have eq : upd (upd (upd H dx (.own a)) a (.ins C dx [])) d (.dK (kvs.map keyS)) = upd (upd (upd H d (.dK (kvs.map keyS))) dx (.own a)) a (.ins C dx []) := by
    funext b
    by_cases b1 : b = d
    · rw [b1, upd_same, upd_ne n1, upd_ne n2, upd_same]
    · rw [upd_ne b1]
      by_cases b2 : b = a
      · rw [b2, upd_same, upd_same]
      · rw [upd_ne b2, upd_ne b2]
        by_cases b3 : b = dx
        · rw [b3, upd_same, upd_same]
        · rw [upd_ne b3, upd_ne b3, upd_ne b1]
  rw [eq]
  exact mk_sp ca (rs.step e1 r1) (.cons (.dct upd_same (rk.mono e1.pp e1.pre)) .nil) (L.after e1) (by rw [upd_ne (Ne.symm n1)]; exact hx) (by rw [upd_ne (Ne.symm n2)]; exact hd) ne (fun _ _ h => ⟨h.1, .inr h.2⟩) h
/-- C(**y): y's dict -/
def wMkS (n p1 : Str) (sp : DSp) (RX : RXe) (i : Nat) : WE := fun env M R => match env[i]? with
  | some (some d) => match viewD M d with
    | .dct ks => Need (ks.length ≤ 1000 ∧ ∀ p ∈ ks, ∃ k, p.1 = Sum.inr k ∧ (k == p1) = false) ∧ sp [.cel M.length, .dct ks] (M ++ [.obj n []]) (fun d M2 => d = .non ∧ mkEnd M R M2) fun n fs M' => RX n fs env M'
    | _ => False
  | _ => False
theorem mkS_in (ca : ClsAt X.K n C) {σ : L2.St} {H : Hp} {Q : VK} (h : tD X.K B (wMkS n p1 sp RX i) σ H Q) : tMkS C (spKw X.K p1 sp) (L2.WE (WL X.K B RX)) i σ H Q := by
  obtain ⟨P, al, M, env, R, rs, hw, L⟩ := h
  unfold wMkS at hw
  split at hw
  · rename_i d hd
    split at hw
    · rename_i ks ev
      obtain ⟨hn, hw⟩ := hw
      obtain ⟨hl, hk⟩ := hn.out
      obtain ⟨v, s1, r⟩ := rs.slot i d hd
      obtain ⟨a, kvs, rfl, ha, rk⟩ := view_dct rs.toRS0 r ev
      have hkeys := keys_nth rk
      have hl' : kvs.length = ks.length := by have := congrArg List.length hkeys; simpa using this.symm
      have mem : ∀ q ∈ kvs, ∃ p ∈ ks, p.1 = q.1 := fun q hq => by
        have : q.1 ∈ ks.map (·.1) := by rw [hkeys]; exact List.mem_map_of_mem hq
        obtain ⟨p, hp, e⟩ := List.mem_map.mp this
        exact ⟨p, hp, e⟩
      refine ⟨a, kvs, s1, ha, by omega, fun q hq => ?_, fun zs hz hnd x dx hx hdx ne => ?_⟩
      · obtain ⟨p, hp, e⟩ := mem q hq
        obtain ⟨k, hk, _⟩ := hk p hp
        exact ⟨k, e.symm.trans hk⟩
      · subst hz
        refine mk_spW ca rs rk L hx hdx ne hnd (fun z hz => ?_) (Nat.le_trans (by simpa using (show (zs.map keyS).length ≤ 1000 by omega)) (by decide : 1000 ≤ sizeLine)) hw
        obtain ⟨p, hp, e⟩ := mem (keyS z) (List.mem_map_of_mem hz)
        obtain ⟨k, hk, hne⟩ := hk p hp
        have : Sum.inr k = (Sum.inr z.1 : Key) := hk.symm.trans e
        cases this
        exact hne
    · exact hw.elim
  · exact hw.elim
theorem d_mkS (ca : ClsAt X.K n C) (Mc : Mk X.K C f) (F : FnW X.prog X.w X.K X.mg X.base CX k f (spKw X.K p1 sp)) (hr : Room (k + 1) X.A) (hx : Rz X B CX RX) (hg : Gl X x) (hm : X.mg x = some (.ref C)) (hN : X.N[i]? = some y) (hv : Vis X.env.scope y) (hdx : (x == ("__debug__" : Str)) = false := by decide)
    (hdb : (y == ("__debug__" : Str)) = false := by decide) (hcd : (y == ("__classdict__" : Str)) = false := by decide) : DE B X (.Call (.Name x p) [] [⟨none, .Name y p2, kpos⟩] pos) (wMkS n p1 sp RX i) :=
  ⟨fun pins s σ H Q I h => wpAny_Call_Name_kw (ld_glob I hg hm (mkS_at Mc F hr (hx σ) hN hv I (mkS_in ca h) hdb hcd) hdx)⟩
/-- cls(**y) -/
def wMkSL (j : Nat) (n p1 : Str) (sp : DSp) (RX : RXe) (i : Nat) : WE := fun env M R => match env[j]? with
  | some (some (.cls n')) => Need (n' = n) ∧ wMkS n p1 sp RX i env M R
  | _ => False
theorem d_mkSL (ca : ClsAt X.K n C) (Mc : Mk X.K C f) (F : FnW X.prog X.w X.K X.mg X.base CX k f (spKw X.K p1 sp)) (hr : Room (k + 1) X.A) (hx : Rz X B CX RX) (hNx : X.N[j]? = some x) (hvx : Vis X.env.scope x) (hN : X.N[i]? = some y) (hv : Vis X.env.scope y) (hdx : (x == ("__debug__" : Str)) = false := by decide)
    (hcx : (x == ("__classdict__" : Str)) = false := by decide) (hdb : (y == ("__debug__" : Str)) = false := by decide) (hcd : (y == ("__classdict__" : Str)) = false := by decide) : DE B X (.Call (.Name x p) [] [⟨none, .Name y p2, kpos⟩] pos) (wMkSL j n p1 sp RX i) := by
  refine ⟨fun pins s σ H Q I h => ?_⟩
  obtain ⟨P, al, M, env, R, rs, hw, L⟩ := h
  unfold wMkSL at hw
  split at hw
  · rename_i n' en
    obtain ⟨hn, hw⟩ := hw
    have hn := hn.out
    subst hn
    obtain ⟨v, h1, h2⟩ := rs.slot j _ en
    cases h2 with
    | cls c2 =>
      obtain rfl := ca.one c2
      refine wpAny_Call_Name_kw (thn ((pe_var (pos := p) hNx hvx hdx hcx).run pins s σ H (fun v H1 => v = .ref C ∧ H1 = H) I ⟨.ref C, h1, rfl, rfl⟩) fun u s1 ⟨v, H1, I1, r1, q1⟩ => ?_)
      obtain ⟨rfl, rfl⟩ := q1
      cases r1
      exact mkS_at Mc F hr (hx σ) hN hv I1 (mkS_in ca ⟨P, al, M, env, R, rs, hw, L⟩) hdb hcd
  · exact hw.elim
end
end L3

namespace L3
open PySem PySem.Spec PyProof.Rows L2
theorem _root_.L2.PK.imp {X : Cx} {kws : List Keyword} {t u : TA} (h : PK X kws t) (i : ∀ σ H Q, u σ H Q → t σ H Q) : PK X kws u := ⟨fun pos pins s σ H Q I q => h.run pos pins s σ H Q I (i σ H Q q)⟩
abbrev DK (B : Bs) (X : Cx) (kws : List Keyword) (w : WA) : Prop := PK X kws (tDA X.K B w)
section
variable {X : Cx} {B : Bs} {CX : CXT} {k : Nat} {f C : Addr} {sp : DSp} {n x p1 : Str} {nm : Option Str} {p kpos pos : Pos} {e : Expr} {we : WE} {was : WA} {RX : RXe} {kws : List Keyword} {names : List Str}
theorem dk_nil : DK B X [] wNil := by
  refine pk_nil.imp fun σ H Q => ?_
  rintro ⟨P, al, M, env, R, rs, hw, L⟩
  exact L _ _ _ _ _ _ Ext.refl rs .nil hw
theorem dk_cons (ha : DE B X e we) (hr : DK B X kws was) : DK B X (⟨nm, e, kpos⟩ :: kws) (wCons we was) := by
  refine (pk_cons ha hr).imp fun σ H Q => ?_
  rintro ⟨P, al, M, env, R, rs, hw, L⟩
  exact ⟨P, al, M, env, _, rs, hw, fun d M1 v H1 P1 al1 e1 rs1 r1 hw1 => ⟨P1, al1, M1, env, _, rs1, hw1, fun ds M2 vs H2 P2 al2 e2 rs2 r2 q =>
    L _ _ _ _ _ _ (e1.trans e2) rs2 (.cons (r1.mono e2.pp e2.pre) r2) q⟩⟩
theorem zip_keys {K : PySem.W.Frag} {P : Hp} {al : List Addr} : ∀ {ns : List Str} {ds : List D} {vs : List V}, Reps K P al ds vs → RepKs K P al ((ns.zip ds).map fun p => ((Sum.inr p.1 : Key), p.2)) ((ns.zip vs).map keyS)
  | [], _, _, _ => .nil
  | _ :: _, _, _, .nil => .nil
  | _ :: _, _, _, .cons r t => .cons r (zip_keys t)
theorem zip_kv : ∀ {ns : List Str} {vs : List V} {us : List Value}, Vals vs us → KV (ns.zip vs) (ns.zip us)
  | [], _, _, _ => .nil
  | _ :: _, _, _, .nil => .nil
  | _ :: _, _, _, .cons r t => .cons ⟨rfl, r⟩ (zip_kv t)
/-- C(k = e, ..) -/
def wMkKw (n : Str) (sp : DSp) (RX : RXe) (names : List Str) (was : WA) : WE := fun env M R => was env M fun ds M1 => Need (ds.length = names.length) ∧
  sp [.cel M1.length, .dct ((names.zip ds).map fun p => (Sum.inr p.1, p.2))] (M1 ++ [.obj n []]) (fun d M2 => d = .non ∧ mkEnd M1 R M2) fun n fs M' => RX n fs env M'
theorem d_mkKw (ca : ClsAt X.K n C) (Mc : Mk X.K C f) (F : FnW X.prog X.w X.K X.mg X.base CX k f (spKw X.K p1 sp)) (hr : Room (k + 1) X.A) (hx : Rz X B CX RX) (hg : Gl X x) (hm : X.mg x = some (.ref C)) (hkw : DK B X kws was) (hn : names.Nodup) (hp : ∀ z ∈ names, (z == p1) = false) (hz : names.length ≤ 1000)
    (hall : (backToKw pos (keywordEach kws X.env)).all (·.1.isSome) = true := by rfl) (hks : (backToKw pos (keywordEach kws X.env)).filterMap (·.1) = names := by rfl) (hdx : (x == ("__debug__" : Str)) = false := by decide)
    (hpl : ((backTo pos (starEach [] X.env)).any (·.1) || (backToKw pos (keywordEach kws X.env)).any (·.1.isNone)) = false := by rfl) : DE B X (.Call (.Name x p) [] kws pos) (wMkKw n sp RX names was) := by
  refine ⟨fun pins s σ H Q I h => ?_⟩
  obtain ⟨P, al, M, env, R, rs, hw, L⟩ := h
  refine wpAny_Call_Name_kw (ld_glob I hg hm ?_ hdx)
  refine PySem.W.callWith_KW0 (h₀ := X.base) I.ok.mod.kin Mc.kp hall ?_ hpl
  refine thn (hkw.run pos pins s σ H (fun zs H1 => zs.length = names.length ∧ ∀ a dx, H1 a = none → H1 dx = none → dx ≠ a → spKw X.K p1 sp [V.ref a] (names.zip zs) (upd (upd H1 dx (.own a)) a (.ins C dx [])) (fun v H2 => v = .non ∧ Q (.ref a) H2) (L2.WE (WL X.K B RX) σ)) I
    ⟨P, al, M, env, _, rs, hw, fun ds M1 vs H1 P1 al1 e1 rs1 r1 q => ?_⟩) fun ws s2 ⟨zs, H2, I2, rz, l1, q2⟩ => ⟨I2.kIn, ?_⟩
  · obtain ⟨hl, q⟩ := q
    have hl : vs.length = names.length := by rw [← r1.length]; exact hl.out
    have hz1 : (names.zip vs).map (·.1) = names := by rw [List.map_fst_zip (by omega)]
    refine ⟨hl, fun a dx hx hd ne => mk_spW ca rs1 (zip_keys r1) (L.after e1) hx hd ne (by rw [hz1]; exact hn) (fun z hz => hp _ ?_) (Nat.le_trans (by rw [List.length_zip]; omega) (by decide : 1000 ≤ sizeLine)) q⟩
    rw [← hz1]; exact List.mem_map_of_mem hz
  · rw [hks]
    exact make_atW (us := []) (vs := []) Mc F hr (hx σ) I2 .nil (zip_kv rz) q2
/-- C() -/
theorem d_mkKw0 (ca : ClsAt X.K n C) (Mc : Mk X.K C f) (F : FnW X.prog X.w X.K X.mg X.base CX k f (spKw X.K p1 sp)) (hr : Room (k + 1) X.A) (hx : Rz X B CX RX) (hg : Gl X x) (hm : X.mg x = some (.ref C)) (hdx : (x == ("__debug__" : Str)) = false := by decide) : DE B X (.Call (.Name x p) [] [] pos) (wMkKw n sp RX [] wNil) := by
  refine ⟨fun pins s σ H Q I h => ?_⟩
  obtain ⟨P, al, M, env, R, rs, ⟨_, hw⟩, L⟩ := h
  refine wpAny_Call_Name_kw (ld_glob I hg hm (PySem.W.callWith_K0 I.kIn Mc.kp ?_) hdx)
  exact make_atW (us := []) (vs := []) (kws := []) (kvs := []) Mc F hr (hx σ) I .nil .nil fun a dx hx hd ne => mk_spW (ks := []) ca rs .nil L hx hd ne .nil (fun z hz => nomatch hz) (Nat.zero_le _) hw
end
/-! ### a list that is no longer changed, published ahead of a statement -/
def unCel (d d' : D) : Option D → Option D
  | some y => match y, d with
    | .cel m, .cel n => if m = n then some d' else some y
    | _, _ => some y
  | none => none
section
variable {X : Cx} {B : Bs} {st : Stmt} {w : WS} {i : Nat}
theorem d_frz (h : DS B X st w) : DS B X st (wFrz i w) := by
  refine h.imp fun D σ H => ?_
  rintro ⟨P, al, M, env, k, rs, hw, L⟩
  unfold wFrz at hw
  split at hw
  · rename_i d hd
    obtain ⟨v, hv, r⟩ := rs.slot i d hd
    obtain ⟨d', M', P', e, r0, rd, q⟩ := frz_ok rs.toRS0 r hw
    refine ⟨P', al, M', _, k, ⟨r0, by rw [List.length_map]; exact rs.slen, fun j z hz => ?_⟩, q, L.after e⟩
    rw [List.getElem?_map] at hz
    cases ho : env[j]? with
    | none => rw [ho] at hz; cases hz
    | some o =>
      rw [ho] at hz
      cases o with
      | none => cases hz
      | some y =>
        obtain ⟨v2, hv2, r2⟩ := rs.slot j y ho
        have r2' := r2.mono e.pp e.pre
        have key : (z = y) ∨ (z = d' ∧ v2 = v) := by
          dsimp only [Option.map] at hz
          split at hz
          · rename_i m n
            split at hz
            · rename_i hmn
              subst hmn
              refine .inr ⟨(Option.some.inj (Option.some.inj hz)).symm, ?_⟩
              cases r with
              | cel a1 => cases r2 with
                | cel a2 => rw [a1] at a2; cases a2; rfl
            · exact .inl (Option.some.inj (Option.some.inj hz)).symm
          · exact .inl (Option.some.inj (Option.some.inj hz)).symm
        rcases key with rfl | ⟨rfl, rfl⟩
        · exact ⟨v2, hv2, r2'⟩
        · exact ⟨_, hv2, rd⟩
  · exact hw.elim
end
end L3


namespace L3
open PySem PySem.Spec PyProof.Rows L2
/-! ### operators by own methods -/
structure OpC (K : PySem.W.Frag) (C : Addr) (m : Str) (f : Addr) : Prop where
  at_ : PySem.W.findIn K (.ref C) m = some (some (.ref f))
  fn : PySem.W.isFn K (.ref f) = true
section
variable {X : Cx} {CX : CXT} {k : Nat} {f C : Addr} {E : XK}
theorem cmpBack_of {u : Value} {s' : Shared} {pins : List (Addr × Obj)} {σ : L2.St} {Q : VK} (h : EP X pins σ Q u s') : PySem.W.CmpBack (EP X pins σ Q) u s' := by
  obtain ⟨v, H, I, r, q⟩ := h
  cases u with
  | notImplemented => cases v <;> first | exact False.elim r | (cases r; done) | (obtain ⟨_, r⟩ := r; cases r; done)
  | _ => exact ⟨v, H, I, r, q⟩
/-- the callee runs, called from a built-in -/
theorem run_in1 {sp : Sp} {pins : List (Addr × Obj)} {σ : L2.St} {H : Hp} {s : Shared} {Q : VK} {us : List Value} {vs : List V} (F : FnR X.prog X.w X.K X.mg X.base CX k f sp) (hr : Room (k + 1) X.A) (hx : PassesAt CX X σ E) (I : Inv X pins σ H s) (r : Vals vs us) (h : sp vs H Q E) :
    codeAny (model X.prog X.w) X.A.in1 (.call (.ref f) ⟨us, []⟩) (fun r s' => match r with
      | .ok (.ret v) => EP X pins σ Q v s'
      | .ok _ => False
      | .error e => X.xe e s') s := by
  refine codeAny_mono (F X.A.in1 X.stack s H us vs Q E hr.in1 I.env0.in1 r h) fun r s' hq => ?_
  match r, hq with
  | .error e, hq => exact hx pins H s e s' I hq
  | .ok (.ret u), hq => exact I.after hq
  | .ok .next, hq => exact hq.elim
  | .ok .brk, hq => exact hq.elim
  | .ok .cont, hq => exact hq.elim
end
section
variable {X : Cx} {B : Bs} {CX : CXT} {k : Nat} {f C : Addr} {sp : DSp} {n : Str} {a b : Expr} {wa wb : WE} {op : Operator} {pos : Pos} {RX : RXe}
theorem view_objOf {K : PySem.W.Frag} {B : Bs} {P : Hp} {al : List Addr} {M : Mt} {H : Hp} {d : D} {v : V} {fs : List (Str × D)} (ca : ClsAt K n C) (r : RS0 K B P al M H) (q : Rep K P al d v) (e : viewD M d = .obj n fs) : ∃ a dx xs, v = .ref a ∧ H a = some (.ins C dx xs) := by
  obtain ⟨a, C', dx, xs, rfl, ha, hc, _⟩ := view_obj r q e
  obtain rfl := ca.one hc
  exact ⟨a, dx, xs, rfl, ha⟩
/-- a op b, both of the class n, by its own method -/
def wOpO (n : Str) (sp : DSp) (RX : RXe) (wa wb : WE) : WE := fun env M R => wa env M fun x M1 => wb env M1 fun y M2 => match viewD M2 x, viewD M2 y with
  | .obj n1 _, .obj n2 _ => Need (n1 = n ∧ n2 = n) ∧ sp [x, y] M2 R fun n fs M' => RX n fs env M'
  | _, _ => False
theorem d_opO (ca : ClsAt X.K n C) (sf : PySem.W.selfFirst X.K C = true) (oc : OpC X.K C (PySem.dunder op.info.2) f) (F : FnR X.prog X.w X.K X.mg X.base CX k f (toSp X.K sp)) (hr : Room k X.A) (hx : Rz X B CX RX) (ha : DE B X a wa) (hb : DE B X b wb) : DE B X (.BinOp a op b pos) (wOpO n sp RX wa wb) := by
  refine ⟨fun pins s σ H Q I h => ?_⟩
  obtain ⟨P, al, M, env, R, rs, hw, L⟩ := h
  refine wpAny_BinOp (binT (ta := tD X.K B wa) (tb := tD X.K B wb) (R := fun x y H1 => ∃ p q dx dy fs gs, x = .ref p ∧ y = .ref q ∧ H1 p = some (.ins C dx fs) ∧ H1 q = some (.ins C dy gs) ∧ toSp X.K sp [.ref p, .ref q] H1 Q (L2.WE (WL X.K B RX) σ)) ha hb I ⟨P, al, M, env, _, rs, hw, fun x M1 v H1 P1 al1 e1 rs1 r1 hw1 => ⟨P1, al1, M1, env, _, rs1, hw1, fun y M2 v2 H2 P2 al2 e2 rs2 r2 q => ?_⟩⟩ fun v u s2 x y H2 I2 rx ry q => ?_)
  · split at q
    · rename_i n1 fs1 n2 fs2 v1 v2'
      obtain ⟨hn, q⟩ := q
      obtain ⟨h1, h2⟩ := hn.out
      subst h1 h2
      have r1' := r1.mono e2.pp e2.pre
      obtain ⟨p, dx, xs, rfl, hp⟩ := view_objOf ca rs2.toRS0 r1' v1
      obtain ⟨p2, dy, ys, rfl, hp2⟩ := view_objOf ca rs2.toRS0 r2 v2'
      exact ⟨p, p2, dx, dy, xs, ys, rfl, rfl, hp, hp2, sp_at rs2 (.cons r1' (.cons r2 .nil)) (L.after (e1.trans e2)) q⟩
    · exact q.elim
  · obtain ⟨p, q', dx, dy, fs, gs, rfl, rfl, hp, hq, h⟩ := q
    cases rx
    cases ry
    obtain ⟨m, fr⟩ := I2.fr
    obtain ⟨_, O, _⟩ := ins_get I2.hok hp
    obtain ⟨od, J, _⟩ := O.look
    obtain ⟨_, O2, _⟩ := ins_get I2.hok hq
    obtain ⟨od2, J2, _⟩ := O2.look
    refine PySem.W.binop_K fr I2.ok.mod.kin J J2.type sf oc.at_ oc.fn (wpAny_mono (wpAny_call (run_at (us := [.ref p, .ref q']) (vs := [.ref p, .ref q']) F hr (hx σ) I2 (.cons rfl (.cons rfl .nil)) h)) (fun _ _ z => cmpBack_of z) fun _ _ z => z)
/-- o[i], o of the class n, by its own __getitem__ -/
def wSubO (n : Str) (sp : DSp) (RX : RXe) (wa wb : WE) : WE := fun env M R => wa env M fun x M1 => wb env M1 fun y M2 => match viewD M2 x with
  | .obj n1 _ => Need (n1 = n) ∧ sp [x, y] M2 R fun n fs M' => RX n fs env M'
  | _ => False
theorem d_subO (ca : ClsAt X.K n C) (oc : OpC X.K C "__getitem__" f) (hf : PySem.W.fnIn X.K f = true) (F : FnR X.prog X.w X.K X.mg X.base CX k f (toSp X.K sp)) (hr : Room (k + 1) X.A) (hx : Rz X B CX RX) (ha : DE B X a wa) (hb : DE B X b wb)
    (hs : ∀ (x : Addr) (i : Value), subscripted b true (.ref x) i = runValue (.builtin "lifetime.subscript" ⟨[.ref x, i], []⟩) := by intros; with_unfolding_all rfl) : DE B X (.Subscript a b pos) (wSubO n sp RX wa wb) := by
  refine ⟨fun pins s σ H Q I h => ?_⟩
  obtain ⟨P, al, M, env, R, rs, hw, L⟩ := h
  refine Subscript_ (binT (ta := tD X.K B wa) (tb := tD X.K B wb) (R := fun x y H1 => ∃ p dx fs, x = .ref p ∧ H1 p = some (.ins C dx fs) ∧ toSp X.K sp [.ref p, y] H1 Q (L2.WE (WL X.K B RX) σ)) ha hb I ⟨P, al, M, env, _, rs, hw, fun x M1 v H1 P1 al1 e1 rs1 r1 hw1 => ⟨P1, al1, M1, env, _, rs1, hw1, fun y M2 v2 H2 P2 al2 e2 rs2 r2 q => ?_⟩⟩ fun v u s2 x y H2 I2 rx ry q => ?_)
  · split at q
    · rename_i n1 fs1 v1
      obtain ⟨hn, q⟩ := q
      have h1 := hn.out
      subst h1
      have r1' := r1.mono e2.pp e2.pre
      obtain ⟨p, dx, xs, rfl, hp⟩ := view_objOf ca rs2.toRS0 r1' v1
      exact ⟨p, dx, xs, rfl, hp, sp_at rs2 (.cons r1' (.cons r2 .nil)) (L.after (e1.trans e2)) q⟩
    · exact q.elim
  · obtain ⟨p, dx, fs, rfl, hp, h⟩ := q
    cases rx
    obtain ⟨m, fr⟩ := I2.fr
    obtain ⟨_, O, _⟩ := ins_get I2.hok hp
    obtain ⟨od, J, _⟩ := O.look
    exact PySem.W.sub_K fr I2.ok.mod.kin J oc.at_ hf oc.fn (wpAny_call (run_in1 (us := [.ref p, u]) (vs := [.ref p, y]) F hr (hx σ) I2 (.cons rfl (.cons ry .nil)) h)) (hs _ _)
end
end L3

namespace L3
open PySem PySem.Spec PyProof.Rows L2
/-! ### static methods read off their class -/
structure SMet (K : PySem.W.Frag) (C : Addr) (mc : Value) (m : Str) (p g : Addr) : Prop where
  at_ : PySem.W.findCls K (.ref C) mc m = some (.get (.builtin "staticmethod.__get__") (.ref p) .none (.ref C))
  rc : ∃ rest, PySem.W.recIn K p "staticmethod" = some (.ref g :: rest)
  kp : PySem.W.keepIn K (.ref g) = true
section
variable {X : Cx} {B : Bs} {CX : CXT} {k : Nat} {C p g : Addr} {mc : Value} {sp : DSp} {n m : Str} {pos apos : Pos} {e o : Expr} {es : List Expr} {was : WA} {wo : WE} {RX : RXe} {dvs : List V} {dds : List D}
def wSMeth (n : Str) (sp : DSp) (dds : List D) (RX : RXe) (wo : WE) (was : WA) : WE := fun env M R => wo env M fun o M1 => match o with
  | .cls n' => Need (n' = n) ∧ was env M1 fun ds M2 => sp (ds ++ dds) M2 R fun n fs M' => RX n fs env M'
  | _ => False
theorem d_smeth {pl : Sem Bool} (ca : ClsAt X.K n C) (ho : DE B X o wo) (r : ClX.CRead X.K C mc) (c : SMet X.K C mc m p g) (F : FnR X.prog X.w X.K X.mg X.base CX k g (fun vs H Q E => toSp X.K sp (vs ++ dvs) H Q E)) (hdd : ∀ P al, Reps X.K P al dds dvs) (hr : Room k X.A) (hx : Rz X B CX RX) (ha : DA B X (e :: es) was)
    (hst : starEach (e :: es) X.env = (false, eval e X.env) :: starEach es X.env := by rfl) (hpl : (backTo pos (starEach es X.env)).any (·.1) = false := by rfl)
    (ht : eval (.Call (.Attribute o m apos) (e :: es) [] pos) X.env = (do
      let ov ← eval o X.env
      standAt apos.atName
      let (f, fst) ← holding [ov] (getMethod ov m pl)
      callWith pos f fst (backTo pos (starEach (e :: es) X.env)) (backToKw pos (keywordEach [] X.env))) := by rfl) : DE B X (.Call (.Attribute o m apos) (e :: es) [] pos) (wSMeth n sp dds RX wo was) := by
  refine ⟨fun pins s σ H Q I h => ?_⟩
  obtain ⟨P, al, M, env, R, rs, hw, L⟩ := h
  refine PySem.W.methodCall_KW (pl := pl) (thn (ho.run pins s σ H (fun x H1 => x = .ref C ∧ tDA X.K B was σ H1 fun vs H2 => toSp X.K sp (vs ++ dvs) H2 Q (L2.WE (WL X.K B RX) σ)) I ⟨P, al, M, env, _, rs, hw, fun d M1 v H1 P1 al1 e1 rs1 r1 q => ?_⟩) fun u s1 ⟨x, H1, I1, rx, ex, q⟩ => ?_) ht
  · split at q
    · obtain ⟨hn, q⟩ := q
      have hn := hn.out
      subst hn
      cases r1 with
      | cls c2 =>
        obtain rfl := ca.one c2
        exact ⟨rfl, P1, al1, M1, env, _, rs1, q, fun ds M2 vs H2 P2 al2 e2 rs2 r2 q2 => sp_at rs2 (r2.append (hdd _ _)) (L.after (e1.trans e2)) q2⟩
    · exact q.elim
  · subst ex
    cases rx
    obtain ⟨rest, hp⟩ := c.rc
    refine PySem.W.method_cls I1.kIn r.ga (PySem.W.cls_bind I1.kIn r.rd c.at_ ?_)
    refine wpAny_call (PySem.W.sm_get (s := { s1 with toks := s1.toks + 1 }) I1.kIn hp (PySem.W.handed_on rfl ?_))
    have I2 : Inv X pins σ H1 { s1 with toks := s1.toks + 1 } := I1.tok _
    refine PySem.W.callWith_K (first := []) (h₀ := X.base) I.ok.mod.kin c.kp (thn (ha.run pos pins _ σ H1 _ I2 q) fun us s3 ⟨vs, H2, I3, rv, q2⟩ => ⟨I3.kIn, ?_⟩) hst hpl
    exact wpAny_call (run_at (us := us) (vs := vs) F hr (hx σ) I3 rv q2)
end
end L3

namespace L3
open PySem PySem.Spec PyProof.Rows L2
/-! ### defs (a, .., *v, k1, k2) called with their keywords -/
theorem kv_split : ∀ {ks : List Str} {zs : List V} {kws : List (Str × Value)}, KV (ks.zip zs) kws → zs.length = ks.length → ∃ ws, kws = ks.zip ws ∧ Vals zs ws
  | [], [], _, .nil, _ => ⟨[], rfl, .nil⟩
  | k :: ks, z :: zs, _, .cons (b := b) a t, h => by
    obtain ⟨ws, e, r⟩ := kv_split t (by simpa using h)
    exact ⟨b.2 :: ws, by rw [e, List.zip_cons_cons, show k = b.1 from a.1], .cons a.2 r⟩
section
variable {CX : CXT} {P : Program} {w : World} {K : PySem.W.Frag} {mg : Str → Option Value} {base : Heap} {k : Nat} {f : Addr} {name qual : Str} {params : Arguments} {body : List Stmt} {scope : Scope} {dV kV doc pm cdv ct oc : Value} {an od : Option Addr}
  {osl : Array (Option Value)} {N ps ks : List Str} {pv : Str} {sp : Sp}
theorem fn_starK (lk : K.lookup f = some ⟨oc, od, .func (PySem.W.fnOf name qual params body scope dV kV doc pm an cdv ct), osl⟩) (hcd : PySem.W.codeIn K cdv qual = true) (S : FnScope N (ps ++ ks ++ [pv]) scope) (hCX : StX.CXUp CX)
    (hb : ∀ us rest ws : List Value, us.length = ps.length → ws.length = ks.length → bindArgs (PySem.W.fnOf name qual params body scope dV kV doc pm an cdv ct) ⟨us ++ rest, ks.zip ws⟩ = (newTuple rest >>= fun t => pure ((ps ++ ks).zip (us ++ ws) ++ [(pv, t)])))
    (hbody : ∀ (A : Around) (outer : List Env) (s : Shared) (H : Hp) (vs : List V) (Q : VK) (E : XK), Room k (A.deeper (envOfC qual scope s.heap.objs.size f cdv)) → sp vs H Q E →
      ∃ t, PSs (cxOf CX P w K mg base N qual scope f cdv A outer s H E) body t ∧ t { nx := fun _ H' => Q .non H', rt := Q } (start N vs) H) :
    FnW P w K mg base CX (k + 1) f (fun vs kvs H Q E => ∃ us rest zs, vs = us ++ rest ∧ us.length = ps.length ∧ rest.length ≤ sizeLine ∧ kvs = ks.zip zs ∧ zs.length = ks.length ∧ ∀ p, H p = Option.none → sp (us ++ zs ++ [V.ref p]) (upd H p (.tup rest)) Q E) := by
  intro A outer s H us0 vs kws kvs Q E hr e0 r rk hsp
  obtain ⟨ws, rest, zs, ev, hl, hz, ek, hzl, hq⟩ := hsp
  subst ev ek
  obtain ⟨u1, u2, eu, r1, r2⟩ := StX.vals_split r
  subst eu
  obtain ⟨u3, ew, r3⟩ := kv_split rk hzl
  subst ew
  have hn : H s.heap.objs.size = Option.none := e0.hok.fresh (Nat.le_refl _)
  have hl1 : u1.length = ps.length := by rw [← r1.length]; exact hl
  have hl2 : u2.length ≤ sizeLine := by rw [← r2.length]; exact hz
  have hl3 : u3.length = ks.length := by rw [← r3.length]; exact hzl
  refine StX.run_bnd (ps := ps ++ ks ++ [pv]) lk hcd S hr e0 (G := fun xs H2 => ∃ p, H p = Option.none ∧ xs = ws ++ zs ++ [V.ref p] ∧ H2 = upd H p (.tup rest)) (fun A' Ex Q' h => ?_) fun s2 H2 xs ⟨p, hp, ex, eH⟩ hr' => ?_
  · rw [hb u1 u2 u3 hl1 hl3]
    refine wpAny_bind (wpAny_newTuple (wpAny_pure ?_) hl2)
    have new : ObjOk P w (upd H s.heap.objs.size (.tup rest)) (s.heap.push ({ cls := .type "tuple", data := .seq u2.toArray } : Obj)) s.heap.objs.size (.tup rest) :=
      ⟨hz, u2, r2, ⟨_, Heap.get?_push_size _ rfl, rfl, _, rfl⟩⟩
    have un := StX.un_laid (fs := frs outer) (s := s) (u := .tup rest)
      (o := ({ cls := .type "tuple", data := .seq u2.toArray } : Obj)) hn
    have z := h _ _ (ws ++ zs ++ [V.ref s.heap.objs.size]) (u1 ++ u3 ++ [Value.ref s.heap.objs.size]) (StX.env0_laid e0 new) un rfl
      (fun e s' => hCX outer s H _ _ E e s' un (fun b o q => Heap.get?_push_of_some _ q) rfl) ((r1.append r3).append (.cons rfl .nil)) (by simp [hl, hzl]) ⟨_, hn, rfl, rfl⟩
    rw [List.zip_append (by simp [hl1, hl3])] at z
    exact z
  · subst ex eH
    exact hbody A outer s2 _ _ Q E hr' (hq p hp)
end
/-- the promise of such an __init__ -/
def spSK (K : PySem.W.Frag) (np : Nat) (ks : List Str) (dsp : DSp) : List V → List (Str × V) → Hp → VK → XK → Prop := fun vs kvs H Q E =>
  ∃ us rest zs, vs = us ++ rest ∧ us.length = np ∧ rest.length ≤ sizeLine ∧ kvs = ks.zip zs ∧ zs.length = ks.length ∧ ∀ p, H p = Option.none → toSp K dsp (us ++ zs ++ [V.ref p]) (upd H p (.tup rest)) Q E
section
variable {P : Program} {w : World} {K : PySem.W.Frag} {mg : Str → Option Value} {base : Heap}
theorem dfnSK {x qual pv : Str} {st : Stmt} {f : Addr} {oc : Value} {od an : Option Addr} {osl : Array (Option Value)} {dV kV doc pm cdv ct : Value} {N ps ks : List Str} {k : Nat} {sp : DSp} {wb : RXe → WS}
    (lk : K.lookup f = some ⟨oc, od, .func (PySem.W.fnOf x qual (defArgs st) (defBody st) (defScope st) dV kV doc pm an cdv ct), osl⟩) (hcd : PySem.W.codeIn K cdv qual = true) (S : FnScope N (ps ++ ks ++ [pv]) (defScope st))
    (hbi : ∀ us rest ws : List Value, us.length = ps.length → ws.length = ks.length → bindArgs (PySem.W.fnOf x qual (defArgs st) (defBody st) (defScope st) dV kV doc pm an cdv ct) ⟨us ++ rest, ks.zip ws⟩ = (newTuple rest >>= fun t => pure ((ps ++ ks).zip (us ++ ws) ++ [(pv, t)])))
    (body : ∀ (A : Around) (outer : List Env) (s : Shared) (H : Hp) (E : XK), Room k (A.deeper (envOfC qual (defScope st) s.heap.objs.size f cdv)) → ∀ (B : Bs) (RX : RXe), Takes (cxOf (L2.CX P w) P w K mg base N qual (defScope st) f cdv A outer s H E) (WL K B RX) → DSs B (cxOf (L2.CX P w) P w K mg base N qual (defScope st) f cdv A outer s H E) (defBody st) (wb RX))
    (hw : ∀ ds M R RX, sp ds M R RX → M.all (cellOk M.length) = true → noCels M.length ds = true → wb (fun nm fs _ M' => rxF M.length RX nm fs M') (fnEnds M.length R) (startE N.length ds) M) :
    FnW P w K mg base (L2.CX P w) (k + 1) f (spSK K ps.length ks sp) :=
  fn_starK lk hcd S StX.cxUp hbi fun A outer s H vs Q E hr h => bodyX h (fun B RX => body A outer s H E hr B RX) hw
end
section
variable {prog : Program} {w : World} {A : Around} {E : Value → Shared → Prop} {s : Shared} {f : Value}
theorem call_SK {K : PySem.W.Frag} {first : List Value} {pos : Pos} {Q : Value → Shared → Prop} {args : List (Bool × Sem Value)} {kws : List (Option Str × Sem Value)} (hst : args.any (·.1) = true) (hk : PySem.W.keepIn K f = true)
    (h : wpAny (model prog w) A (evalArgs f true args kws) (fun a s1 => K.In s1.heap ∧ wpAny (model prog w) A (call f (first ++ a.pos) a.kw) Q E s1) E s) : wpAny (model prog w) A (callWith pos f first args kws) Q E s := by
  unfold callWith
  refine wpAny_bind (wpAny_holding (wpAny_mono h (fun a s1 h1 => wpAny_bind (wpAny_standAt ?_)) fun _ _ z => z))
  obtain ⟨k, hk', L⟩ := PySem.W.keeps_K (M := model prog w) hk _ h1.1
  simp only [hst, Bool.true_or]
  refine wpAny_bind (L.here ?_)
  have tail : ∀ {t : Sem Value}, wpAny (model prog w) A t Q E s1 → wpAny (model prog w) A (t >>= fun r => holding [r] point >>= fun _ => pure r) Q E s1 :=
    fun ht => wpAny_bind (wpAny_mono ht (fun r s2 hr => wpAny_bind (wpAny_holding (wpAny_point (wpAny_pure hr)))) fun _ _ z => z)
  have marked (mk : Value) : wpAny (model prog w) A (callMarked mk f (first ++ a.pos) a.kw) Q E s1 := by unfold callMarked; exact Calls.wpAny_keep h1.2
  rcases hk' with rfl | rfl | rfl <;> dsimp only <;> first | exact tail (marked _) | exact tail (wpAny_operating h1.2)
end
section
variable {X : Cx} {B : Bs} {CX : CXT} {k np : Nat} {f C : Addr} {sp : DSp} {n x : Str} {p kpos pos : Pos} {e : Expr} {es : List Expr} {was wks : WA} {RX : RXe} {kws : List Keyword} {names : List Str}
theorem mk_spSK {K : PySem.W.Frag} {P : Hp} {al : List Addr} {M : Mt} {env : Ev} {σ : L2.St} {H : Hp} {R : D → Mt → Prop} {Q : VK} {ds kds : List D} {vs zs : List V} {a dx : Addr} (ca : ClsAt K n C) (rs : RS K B P al M env σ H) (r : Reps K P al ds vs) (rz : Reps K P al kds zs) (L : Lift K B P al env σ H R Q)
    (hx : H a = none) (hd : H dx = none) (ne : dx ≠ a) (hl : np ≤ vs.length) (hz : vs.length ≤ sizeLine) (hk : zs.length = names.length) (h : sp (.cel M.length :: (ds.take np ++ kds ++ [.tup (ds.drop np)])) (M ++ [.obj n []]) (fun d M2 => d = .non ∧ mkEnd M R M2) fun n fs M' => RX n fs env M') :
    spSK K (np + 1) names sp (V.ref a :: vs) (names.zip zs) (upd (upd H dx (.own a)) a (.ins C dx [])) (fun v H2 => v = .non ∧ Q (.ref a) H2) (L2.WE (WL K B RX) σ) := by
  refine ⟨V.ref a :: vs.take np, vs.drop np, zs, by rw [List.cons_append, List.take_append_drop], by rw [List.length_cons, List.length_take]; omega, by rw [List.length_drop]; omega, rfl, hk, fun d hd' => ?_⟩
  have n1 : d ≠ a := fun z => by rw [z, upd_same] at hd'; cases hd'
  have n2 : d ≠ dx := fun z => by rw [z, upd_ne ne, upd_same] at hd'; cases hd'
  have h0 : H d = none := by rw [upd_ne n1, upd_ne n2] at hd'; exact hd'
  obtain ⟨e1, r1⟩ := rs.toRS0.alloc h0 (.tup (vs.drop np))
  have eq : upd (upd (upd H dx (.own a)) a (.ins C dx [])) d (.tup (vs.drop np)) = upd (upd (upd H d (.tup (vs.drop np))) dx (.own a)) a (.ins C dx []) := by
    funext b
    by_cases b1 : b = d
    · rw [b1, upd_same, upd_ne n1, upd_ne n2, upd_same]
    · rw [upd_ne b1]
      by_cases b2 : b = a
      · rw [b2, upd_same, upd_same]
      · rw [upd_ne b2, upd_ne b2]
        by_cases b3 : b = dx
        · rw [b3, upd_same, upd_same]
        · rw [upd_ne b3, upd_ne b3, upd_ne b1]
  rw [eq, List.cons_append, List.cons_append]
  exact mk_sp ca (rs.step e1 r1) (((((r.take np).mono e1.pp e1.pre)).append (rz.mono e1.pp e1.pre)).append (.cons (.tup (.inl (.inl upd_same)) ((r.drop np).mono e1.pp e1.pre)) .nil)) (L.after e1)
    (by rw [upd_ne (Ne.symm n1)]; exact hx) (by rw [upd_ne (Ne.symm n2)]; exact hd) ne (fun _ _ h => ⟨h.1, .inr h.2⟩) h
/-- C(e, .., *es, k = v, ..) -/
def wMkSK (n : Str) (np : Nat) (names : List Str) (sp : DSp) (RX : RXe) (was wks : WA) : WE := fun env M R => was env M fun ds M1 => wks env M1 fun kds M2 => Need (np ≤ ds.length ∧ ds.length ≤ sizeLine ∧ kds.length = names.length) ∧
  sp (.cel M2.length :: (ds.take np ++ kds ++ [.tup (ds.drop np)])) (M2 ++ [.obj n []]) (fun d M3 => d = .non ∧ mkEnd M2 R M3) fun n fs M' => RX n fs env M'
theorem d_mkSK (ca : ClsAt X.K n C) (Mc : Mk X.K C f) (F : FnW X.prog X.w X.K X.mg X.base CX k f (spSK X.K (np + 1) names sp)) (hr : Room (k + 1) X.A) (hx : Rz X B CX RX) (hg : Gl X x) (hm : X.mg x = some (.ref C)) (ha : DA B X (e :: es) was) (hkw : DK B X kws wks)
    (hall : (backToKw pos (keywordEach kws X.env)).all (·.1.isSome) = true := by rfl) (hks : (backToKw pos (keywordEach kws X.env)).filterMap (·.1) = names := by rfl) (hdx : (x == ("__debug__" : Str)) = false := by decide)
    (he : starEach (e :: es) X.env = (false, eval e X.env) :: starEach es X.env := by rfl) (hst : (backTo pos (starEach (e :: es) X.env)).any (·.1) = true := by rfl) : DE B X (.Call (.Name x p) (e :: es) kws pos) (wMkSK n np names sp RX was wks) := by
  refine ⟨fun pins s σ H Q I h => ?_⟩
  obtain ⟨P, al, M, env, R, rs, hw, L⟩ := h
  refine wpAny_Call_Name_kw (ld_glob I hg hm (call_SK (K := X.K) hst Mc.kp (evalArgs_kw2 hall ?_ he)) hdx)
  refine thn (ha.run pos pins s σ H (fun vs H1 => tDA X.K B wks σ H1 fun zs H2 => zs.length = names.length ∧ ∀ a dx, H2 a = none → H2 dx = none → dx ≠ a → spSK X.K (np + 1) names sp (V.ref a :: vs) (names.zip zs) (upd (upd H2 dx (.own a)) a (.ins C dx [])) (fun v H3 => v = .non ∧ Q (.ref a) H3) (L2.WE (WL X.K B RX) σ)) I
    ⟨P, al, M, env, _, rs, hw, fun ds M1 vs H1 P1 al1 e1 rs1 r1 q => ⟨P1, al1, M1, env, _, rs1, q, fun kds M2 zs H2 P2 al2 e2 rs2 r2 q2 => ?_⟩⟩) fun us s1 ⟨vs, H1, I1, rv, q⟩ => ?_
  · obtain ⟨hn, q2⟩ := q2
    obtain ⟨n1, n2, n3⟩ := hn.out
    rw [r1.length] at n1 n2
    rw [r2.length] at n3
    exact ⟨n3, fun a dx hx hd ne => mk_spSK ca rs2 (r1.mono e2.pp e2.pre) r2 (L.after (e1.trans e2)) hx hd ne n1 n2 n3 q2⟩
  · refine thn (hkw.run pos pins s1 σ H1 _ I1 q) fun ws s2 ⟨zs, H2, I2, rz, l1, q2⟩ => ⟨I2.kIn, ?_⟩
    rw [hks]
    exact make_atW Mc F hr (hx σ) I2 rv (zip_kv rz) q2
end
end L3

namespace L3
open PySem PySem.Spec PyProof.Rows L2
/-! ### while -/
def wWhile (t : WT) (b : WS) : WS := fun k env M => ∃ W : Nat → Ev → Mt → Prop, (∃ m, W m env M) ∧ ∀ m env M, W m env M →
  t env M fun c M1 => ifB c (b ⟨fun e m' => ∃ n, n < m ∧ W n e m', k.rt, k.nx, fun e m' => ∃ n, n < m ∧ W n e m'⟩ env M1) (k.nx env M1)
section
variable {X : Cx} {B : Bs} {c : Expr} {body : List Stmt} {pos : Pos} {t : WT} {b : WS}
theorem d_while (hp : PassesOwn (model X.prog X.w) X.A X.env X.xe) (hc : DT B X c t) (hb : DSs B X body b) : DS B X (.While c body [] pos) (wWhile t b) := by
  refine (ps_while hp hc hb).imp fun D σ H => ?_
  rintro ⟨P, al, M, env, k, rs, ⟨W, ⟨m0, w0⟩, turn⟩, L⟩
  refine ⟨fun m σ2 H2 => ∃ P2 al2 M2 env2, Ext P al H P2 al2 H2 ∧ RS X.K B P2 al2 M2 env2 σ2 H2 ∧ W m env2 M2, ⟨m0, P, al, M, env, Ext.refl, rs, w0⟩, ?_⟩
  rintro m σ2 H2 ⟨P2, al2, M2, env2, e2, rs2, w2⟩
  refine ⟨P2, al2, M2, env2, _, rs2, turn m env2 M2 w2, fun c M3 H3 P3 al3 e3 rs3 q => ?_⟩
  have e23 := e2.trans e3
  dsimp only
  cases c with
  | true =>
    rw [if_pos rfl]
    refine ⟨fun σ' H' => ∃ n, n < m ∧ ∃ P' al' M' env', Ext P al H P' al' H' ∧ RS X.K B P' al' M' env' σ' H' ∧ W n env' M', fun σ' H' x => x, P3, al3, M3, env2, _, rs3, q.1 rfl, ⟨fun env5 M5 σ5 H5 P5 al5 e5 rs5 w5 => ?_, fun d M5 v H5 P5 al5 e5 rs5 r5 q5 => L.rt _ _ _ _ _ _ (e23.trans e5) rs5 r5 q5,
      fun env5 M5 σ5 H5 P5 al5 e5 rs5 q5 => L.nx _ _ _ _ _ _ (e23.trans e5) rs5 q5, fun env5 M5 σ5 H5 P5 al5 e5 rs5 w5 => ?_⟩⟩
    · obtain ⟨n, hn, w5⟩ := w5
      exact ⟨n, hn, P5, al5, M5, env5, e23.trans e5, rs5, w5⟩
    · obtain ⟨n, hn, w5⟩ := w5
      exact ⟨n, hn, P5, al5, M5, env5, e23.trans e5, rs5, w5⟩
  | false =>
    rw [if_neg Bool.false_ne_true]
    exact L.nx _ _ _ _ _ _ e23 rs3 (q.2 rfl)
end
/-! ### y = [..], and lists that will change -/
section
variable {K : PySem.W.Frag} {B : Bs} {wi : WI} {g : TG} {is vs : List Nat} {t : WTs} {we : WE}
theorem lc_in (bn : Binds1 K g is vs) {σ : L2.St} {H : Hp} {P : Hp} {al : List Addr} {M : Mt} {env : Ev} {R : D → Mt → Prop} {Q : VK} (rs : RS K B P al M env σ H) (hw : wLc wi is t we vs env M R) (L : Lift K B P al env σ H R Q) : tLc (tDI K B wi) g (tDT K B t) (tD K B we) vs σ H Q := by
  refine lc_imp (fin := fun acc M R => R (.lst acc) M) bn (fun P al M σ H p acc vs R Q H0 P0 al0 rs e hp np na hb hv ra hr hq => ?_) rs hw L
  have sm : Same P (upd P p (.lst vs)) := fun b x h => by rw [upd_ne (ne_of_none h np)]; exact h
  refine hq _ _ _ _ (e.pub hp np (.lst vs)) ⟨rs.toRS0.pub np na hb hv, rs.slen, fun j d h => ?_⟩ (.lst upd_same (ra.mono sm (List.prefix_refl _))) hr
  obtain ⟨v, h1, h2⟩ := rs.slot j d h
  exact ⟨v, h1, h2.mono sm (List.prefix_refl _)⟩
end
section
variable {X : Cx} {B : Bs} {e : Expr} {tg elt : Expr} {ifs : List Expr} {scope : Scope} {own : List (Str × Nat)} {g : TG} {is : List Nat} {wi : WI} {t : WTs} {we : WE} {pos spos py : Pos} {i : Nat} {y : Str}
def wSetLc (i : Nat) (w : WE) : WS := fun k env M => w env M fun d M1 => k.nx (env.set i (some d)) M1
theorem d_setLc (hc : X.calm = true) (hN : X.N.Nodup) (hy : X.N[i]? = some y) (hyl : X.env.scope.names.lookup y = some .local)
    (hsw : swapsWith (.ListComp elt [⟨tg, e, ifs, 0⟩] scope pos) (some (.Name y py)) spos.line X.env = pure true) (hi : DI B X tg e wi) (ok : BlkOk X.N X.env.scope scope own)
    (hg : ∀ (s : Shared) (H : Hp) (C : Addr) (cl : List (Str × Addr)) (fp : List Addr), PG (X.blk s H scope (compEnvC scope cl C X.env) fp) tg g) (bn : Binds1 X.K g is (own.map (·.2)))
    (ht : ∀ (s : Shared) (H : Hp) (C : Addr) (cl : List (Str × Addr)) (fp : List Addr), DTs B (X.blk s H scope (compEnvC scope cl C X.env) fp) ifs t)
    (he : ∀ (s : Shared) (H : Hp) (C : Addr) (cl : List (Str × Addr)) (fp : List Addr), DE B (X.blk s H scope (compEnvC scope cl C X.env) fp) elt we) (hs : ∀ x, foldedSetIterable e X.env x = pure x := by intro _; rfl) :
    DS B X (.Assign [.Name y py] (.ListComp elt [⟨tg, e, ifs, 0⟩] scope pos) spos) (wSetLc i (wLc wi is t we (own.map (·.2)))) := by
  refine (ps_setLc (i := i) (tt := tDT X.K B t) (te := tD X.K B we) hc hN hy hyl hsw hi ok hg ht he hs).imp fun D σ H => ?_
  rintro ⟨P, al, M, env, k, rs, hw, L⟩
  exact lc_in bn rs hw fun d M1 v H1 P1 al1 e1 rs1 r1 q => L.nx _ _ _ _ _ _ e1 (rs1.put i r1) q
end
/-! ### sum, sorted -/
def intsD : List D → Option (List Int)
  | [] => some []
  | .int i :: r => (intsD r).map (i :: ·)
  | _ => none
def strsD : List D → Option (List Str)
  | [] => some []
  | .str i :: r => (strsD r).map (i :: ·)
  | _ => none
theorem ints_rep {K : PySem.W.Frag} {P : Hp} {al : List Addr} : ∀ {ds : List D} {vs : List V} {bs : List Int}, Reps K P al ds vs → intsD ds = some bs → vs = bs.map V.int
  | _, _, _, .nil, e => by cases e; rfl
  | _, _, _, .cons (d := d) (ds := ds) r t, e => by
    cases d <;> simp [intsD] at e
    obtain ⟨bs, h, rfl⟩ := e
    cases r
    rw [ints_rep t h]; rfl
theorem strs_rep {K : PySem.W.Frag} {P : Hp} {al : List Addr} : ∀ {ds : List D} {vs : List V} {bs : List Str}, Reps K P al ds vs → strsD ds = some bs → vs = bs.map V.str
  | _, _, _, .nil, e => by cases e; rfl
  | _, _, _, .cons (d := d) (ds := ds) r t, e => by
    cases d <;> simp [strsD] at e
    obtain ⟨bs, h, rfl⟩ := e
    cases r
    rw [strs_rep t h]; rfl
theorem int_reps {K : PySem.W.Frag} {P : Hp} {al : List Addr} : ∀ ns : List Int, Reps K P al (ns.map D.int) (ns.map V.int)
  | [] => .nil
  | x :: r => .cons (.int x) (int_reps r)
theorem str_reps {K : PySem.W.Frag} {P : Hp} {al : List Addr} : ∀ ns : List Str, Reps K P al (ns.map D.str) (ns.map V.str)
  | [] => .nil
  | x :: r => .cons (.str x) (str_reps r)
section
variable {X : Cx} {B : Bs} {K : PySem.W.Frag}
@[irreducible] def cSum : WCl := fun ds M R => match ds with
  | [x] => match lstD (viewD M x) with
    | some l => match intsD l with
      | some ns => R (.int ns.sum) M
      | none => False
    | none => False
  | _ => False
theorem cSum_ok : CallD K B (rSum K) cSum := by
  intro P al M env σ H vs ds R Q rs r h L
  unfold cSum at h
  split at h
  · cases r with
    | cons r1 t =>
      cases t
      split at h
      · rename_i l e1
        split at h
        · rename_i ns e2
          obtain ⟨a, xs, rfl, h1, q1⟩ := view_lstD rs.toRS0 r1 e1
          have := ints_rep q1 e2
          subst this
          exact ⟨a, ns, rfl, h1, L.here rs (.int _) h⟩
        · exact h.elim
      · exact h.elim
  · exact h.elim
/-- sorted(xs), whole numbers: a rising arrangement -/
@[irreducible] def cSortI : WCl := fun ds M R => match ds with
  | [x] => match lstD (viewD M x) with
    | some l => match intsD l with
      | some ns => ∀ ns' : List Int, ns'.Perm ns → ns'.Pairwise (· ≤ ·) → R (.lst (ns'.map D.int)) M
      | none => False
    | none => False
  | _ => False
theorem cSortI_ok : CallD K B (rSortedI K) cSortI := by
  intro P al M env σ H vs ds R Q rs r h L
  unfold cSortI at h
  split at h
  · cases r with
    | cons r1 t =>
      cases t
      split at h
      · rename_i l e1
        split at h
        · rename_i ns e2
          obtain ⟨a, xs, rfl, h1, q1⟩ := view_lstD rs.toRS0 r1 e1
          have := ints_rep q1 e2
          subst this
          exact ⟨a, ns, rfl, h1, fun ns' p hp hs hn => L.alloc rs hn (.lst upd_same (int_reps ns')) (h ns' hp hs)⟩
        · exact h.elim
      · exact h.elim
  · exact h.elim
/-- sorted(xs), texts -/
def cSortS : WCl := fun ds M R => match ds with
  | [x] => match lstD (viewD M x) with
    | some l => match strsD l with
      | some ns => Need (ns.length < 64) ∧ ∀ ns' : List Str, ns'.Perm ns → sortedS ns' = true → R (.lst (ns'.map D.str)) M
      | none => False
    | none => False
  | _ => False
theorem cSortS_ok : CallD K B (rSortedS K) cSortS := by
  intro P al M env σ H vs ds R Q rs r h L
  unfold cSortS at h
  split at h
  · cases r with
    | cons r1 t =>
      cases t
      split at h
      · rename_i l e1
        split at h
        · rename_i ns e2
          obtain ⟨a, xs, rfl, h1, q1⟩ := view_lstD rs.toRS0 r1 e1
          have := strs_rep q1 e2
          subst this
          exact ⟨a, ns, rfl, h1, h.1.out, fun ns' p hp hs hn => L.alloc rs hn (.lst upd_same (str_reps ns')) (h.2 ns' hp hs)⟩
        · exact h.elim
      · exact h.elim
  · exact h.elim
end
end L3

namespace L3
open PySem PySem.Spec PyProof.Rows L2
/-! ### what is never reached -/
def wNev : WE := fun _ _ _ => False
def wNevS : WS := fun _ _ _ => False
section
variable {X : Cx} {B : Bs} {e : Expr} {st : Stmt} {ss : List Stmt} {pos p : Pos}
theorem d_nev : DE B X e wNev := ⟨fun _ _ _ _ _ _ h => by obtain ⟨_, _, _, _, _, _, h, _⟩ := h; exact h.elim⟩
theorem d_nevS : DS B X st wNevS := ⟨fun _ _ _ _ _ _ h => by obtain ⟨_, _, _, _, _, _, h, _⟩ := h; exact h.elim⟩
theorem ds_nev : DSs B X ss wNevS := ⟨fun _ _ _ _ _ _ h => by obtain ⟨_, _, _, _, _, _, h, _⟩ := h; exact h.elim⟩
end
/-! ### an object of our own beside the state becomes one of the table -/
theorem RS0.adopt {K : PySem.W.Frag} {B : Bs} {P : Hp} {al : List Addr} {M : Mt} {H : Hp} {p : Addr} {o : HO} {m : D} (r : RS0 K B P al M H) (hq : P p = none) (na : p ∉ al) (hb : B.2.2 p = none) (ho : H p = some o)
    (hc : ∀ P' al', Same P P' → al <+: al' → P' p = none → Cell K P' al' m p H) : RS0 K B P (al ++ [p]) (M ++ [m]) H := by
  have pre : al <+: al ++ [p] := List.prefix_append _ _
  have old : ∀ (i : Nat) (a : Addr), (al ++ [p])[i]? = some a → (i < al.length ∧ al[i]? = some a) ∨ (i = al.length ∧ a = p) := fun i a h => by
    by_cases hi : i < al.length
    · rw [List.getElem?_append_left hi] at h; exact .inl ⟨hi, h⟩
    · rw [List.getElem?_append_right (by omega)] at h
      cases hq : i - al.length with
      | zero => rw [hq] at h; exact .inr ⟨by omega, by simpa using h.symm⟩
      | succ n => rw [hq] at h; simp at h
  have oldM : ∀ (i : Nat) (n : D), i < al.length → (M ++ [m])[i]? = some n → M[i]? = some n := fun i n hi h => by
    rw [List.getElem?_append_left (by have := r.len; omega)] at h; exact h
  have ne : ∀ {i : Nat} {a : Addr}, al[i]? = some a → a ≠ p := fun h z => na (z ▸ List.mem_of_getElem? h)
  refine ⟨⟨r.base.pp, List.IsPrefix.trans r.base.pre pre, r.base.fr, fun b hm n => ?_, r.base.pn⟩, r.same, by simp [r.len], fun i a n h1 h2 => ?_, fun i j a n n' h1 h2 h3 h4 l1 l2 => ?_, fun a ha => ?_⟩
  · rcases List.mem_append.mp hm with z | z
    · exact r.base.new b z n
    · have : b = p := by simpa using z
      rw [this]; exact hb
  · rcases old i a h1 with ⟨hi, h1'⟩ | ⟨hi, rfl⟩
    · have c := r.cell i a n h1' (oldM i n hi h2)
      exact c.mono (Same.refl _) pre (fun hl => (live_cell hl c).1) fun _ _ h => h
    · rw [hi, List.getElem?_append_right (by have := r.len; omega), r.len, Nat.sub_self] at h2
      have : m = n := by simpa using h2
      subst this
      exact hc _ _ (Same.refl _) pre hq
  · rcases old i a h1 with ⟨hi, h1'⟩ | ⟨hi, e1⟩
    · rcases old j a h2 with ⟨hj, h2'⟩ | ⟨hj, e2⟩
      · exact r.inj i j a n n' h1' h2' (oldM i n hi h3) (oldM j n' hj h4) l1 l2
      · exact absurd e2 (ne h1')
    · rcases old j a h2 with ⟨hj, h2'⟩ | ⟨hj, e2⟩
      · exact absurd e1 (ne h2')
      · omega
  · rcases List.mem_append.mp ha with z | z
    · exact r.trk a z
    · have : a = p := by simpa using z
      rw [this]; exact ⟨o, ho⟩
/-! ### lists of keys, of a range -/
def kD : Key → D
  | .inl i => .int i
  | .inr s => .str s
theorem kD_rep {K : PySem.W.Frag} {P : Hp} {al : List Addr} : ∀ {ks : List (Key × D)} {kvs : List (Key × V)}, RepKs K P al ks kvs → Reps K P al (ks.map fun p => kD p.1) (kvs.map fun p => kV p.1)
  | _, _, .nil => .nil
  | _, _, .cons (k := k) _ t => .cons (by cases k <;> first | exact .int _ | exact .str _) (kD_rep t)
/-- list(x), x a list, a tuple or a dict -/
def cListA (m : Bool) : WCl := fun ds M R => match ds with
  | [x] => match viewD M x with
    | .dct ks => if m then R (.cel M.length) (M ++ [.lst (ks.map fun p => kD p.1)]) else R (.lst (ks.map fun p => kD p.1)) M
    | .fdc ks => if m then R (.cel M.length) (M ++ [.lst (ks.map fun p => kD p.1)]) else R (.lst (ks.map fun p => kD p.1)) M
    | _ => cList m ds M R
  | _ => False
def rListR : List V → Hp → VK → Prop := fun xs H Q => ∃ (a : Addr) (kvs : List (Key × V)), xs = [.ref a] ∧ Rd H a (.dK kvs) ∧ ∀ p, H p = none → Q (.ref p) (upd H p (.lst (kvs.map fun kv => kV kv.1)))
theorem callListA {X : Cx} (hc : X.calm = true) : CallR X (.type "list") (fun xs H Q => (∃ p ys, xs = [.ref p] ∧ (SqL X.K H p ys ∨ SqT X.K H p ys) ∧ ∀ l, H l = none → Q (.ref l) (upd H l (.lst ys))) ∨ rListR xs H Q) := call_list_of.or (call_listD hc)
theorem cListA_ok {K : PySem.W.Frag} {B : Bs} {m : Bool} : CallD K B (fun xs H Q => (∃ p ys, xs = [.ref p] ∧ (SqL K H p ys ∨ SqT K H p ys) ∧ ∀ l, H l = none → Q (.ref l) (upd H l (.lst ys))) ∨ rListR xs H Q) (cListA m) := by
  intro P al M env σ H vs ds R Q rs r h L
  unfold cListA at h
  split at h
  · rename_i x
    split at h
    · rename_i ks e
      cases r with
      | cons r1 t =>
        cases t
        obtain ⟨a, kvs, rfl, ha, rk⟩ := view_dct rs.toRS0 r1 e
        refine .inr ⟨a, kvs, rfl, .inl ha, fun q hq => ?_⟩
        cases m with
        | true => exact L.allocM rs hq (kD_rep rk) h
        | false => exact L.alloc rs hq (.lst upd_same ((kD_rep rk).mono (same_new rs.toRS0 hq) (List.prefix_refl _))) h
    · rename_i ks e
      cases r with
      | cons r1 t =>
        cases t
        obtain ⟨a, kvs, rfl, ha, rk⟩ := view_fdc rs.toRS0 r1 e
        refine .inr ⟨a, kvs, rfl, ha, fun q hq => ?_⟩
        cases m with
        | true => exact L.allocM rs hq (kD_rep rk) h
        | false => exact L.alloc rs hq (.lst upd_same ((kD_rep rk).mono (same_new rs.toRS0 hq) (List.prefix_refl _))) h
    · exact .inl (cList_ok P al M env σ H vs [x] R Q rs r h L)
  · exact h.elim
/-! ### a dict display that will change; list(range(..)) -/
section
variable {X : Cx} {B : Bs} {pos : Pos}
theorem d_dispM {keys : List (Option Expr)} {values : List Expr} {ws : List (WE × WE)} (h : PPs X pos keys values (ws.map fun w => (tD X.K B w.1, tD X.K B w.2))) (hall : keys.all (·.isSome) = true) (hl : keys.length = values.length) (h0 : keys ≠ []) (h15 : keys.length ≤ 15) : DE B X (.Dict keys values pos) (wDispM ws) := by
  refine (pe_disp h hall hl h0 h15).imp fun σ H Q => ?_
  rintro ⟨P, al, M, env, R, rs, hw, L⟩
  intro p hp
  obtain ⟨hb, na⟩ := rs.toRS0.fresh hp
  have np := rs.toRS0.free hp
  have rs1 : RS X.K B P al M env σ (upd H p (.dK [])) := ⟨rs.toRS0.priv np na hb _, rs.slen, rs.slot⟩
  refine pairs_imp ws rs1 hw fun ps M2 vs H2 P2 al2 e2 rs2 r2 q => ?_
  have hp2 : H2 p = some (.dK []) := e2.fr _ _ upd_same na
  have na2 : p ∉ al2 := fun m => by have := e2.new _ m na; rw [upd_same] at this; cases this
  have np2 : P2 p = none := e2.pn _ _ upd_same ⟨fun _ u => (by cases u), fun _ u => (by cases u)⟩ np na
  split at q
  · rename_i ks hk
    obtain ⟨kvs, rfl, rk⟩ := keys_rep r2 hk
    refine ⟨hp2, kvs, rfl, by rw [← rk.len]; exact q.1.out, ?_⟩
    have rm : RepKs X.K P2 al2 (mergeD [] ks) (mergeK [] kvs) := RepKs.merge rk .nil
    have r4 := (rs2.toRS0.priv np2 na2 hb (.dK (mergeK [] kvs))).adopt (m := .dct (mergeD [] ks)) np2 na2 hb upd_same fun P' al' s h hn => ⟨hn, _, upd_same, rm.mono s h⟩
    have e4 : Ext P al H P2 (al2 ++ [p]) (upd H2 p (.dK (mergeK [] kvs))) := by
      refine ⟨e2.pp, List.IsPrefix.trans e2.pre (List.prefix_append _ _), fun b x h n => ?_, fun b m n => ?_, fun b x h h1 h2 h3 => e2.pn b x (by rw [upd_ne (ne_of_none h hp)]; exact h) h1 h2 h3⟩
      · rw [upd_ne (ne_of_none h hp)]; exact e2.fr b x (by rw [upd_ne (ne_of_none h hp)]; exact h) n
      · rcases List.mem_append.mp m with z | z
        · have := e2.new b z n
          by_cases hz : b = p
          · rw [hz]; exact hp
          · rw [upd_ne hz] at this; exact this
        · have : b = p := by simpa using z
          rw [this]; exact hp
    refine L _ _ _ _ _ _ e4 (rs.step e4 r4) (.cel ?_) q.2
    rw [← rs2.len, List.getElem?_append_right (Nat.le_refl _), Nat.sub_self]; rfl
  · exact q.elim
def wListRg (was : WA) : WE := fun env M R => was env M fun ds M1 => match ds with
  | [.int j] => Need (0 ≤ j ∧ j ≤ 16777216) ∧ R (.lst (rangeD 0 j.toNat)) M1
  | _ => False
theorem range_rep {K : PySem.W.Frag} {P : Hp} {al : List Addr} (a b : Int) : Reps K P al (rangeD a (b - a).toNat) (rgV a b) := by
  unfold rangeD rgV
  generalize (b - a).toNat = n
  suffices h : ∀ l : List Nat, Reps K P al (l.map fun (k : Nat) => D.int (a + k)) (l.map fun (i : Nat) => V.int (a + (i : Nat))) from h _
  intro l
  induction l with
  | nil => exact .nil
  | cons x r ih => exact .cons (.int _) ih
theorem d_listRg {a : Expr} {p p2 pos2 : Pos} {wa : WE} (hc : X.calm = true) (hg : Gl X "list") (hm : X.mg "list" = none) (hgr : Gl X "range") (hmr : X.mg "range" = none) (ha : DE B X a wa) (n1 : starEach [a] X.env = (false, eval a X.env) :: starEach [] X.env := by rfl)
    (n2 : starEach [.Call (.Name "range" p2) [a] [] pos2] X.env = (false, eval (.Call (.Name "range" p2) [a] [] pos2) X.env) :: starEach [] X.env := by rfl) : DE B X (.Call (.Name "list" p) [.Call (.Name "range" p2) [a] [] pos2] [] pos) (wListRg (wCons wa wNil)) := by
  refine (pe_listRg hc hg hm (prg_1 hgr hmr ha n1) n2).imp fun σ H Q => ?_
  rintro ⟨P, al, M, env, R, rs, hw, L⟩
  refine ⟨P, al, M, env, _, rs, hw, fun d M1 v H1 P1 al1 e1 rs1 r1 q => ?_⟩
  unfold wNil at q
  cases d <;> first | exact q.elim | skip
  rename_i j
  cases r1
  obtain ⟨hn, q⟩ := q
  obtain ⟨h1, h2⟩ := hn.out
  refine ⟨j, rfl, RgOk.of_le (by omega) h2 (by omega) h1, fun p hp => ?_⟩
  have rr := range_rep (K := X.K) (P := P1) (al := al1) 0 j
  rw [Int.sub_zero] at rr
  exact (L.after e1).alloc rs1 hp (.lst upd_same (rr.mono (same_new rs1.toRS0 hp) (List.prefix_refl _))) q
end
/-- a callee that may raise, but not here -/
theorem rzN {X : Cx} {B : Bs} : Rz X B (L2.CX X.prog X.w) RXn := fun σ _ _ _ _ _ _ h => by
  obtain ⟨_, _, _, _, _, _, _, _, _, _, _, _, z⟩ := h
  obtain ⟨_, _, _, _, _, _, _, _, _, _, _, z⟩ := z
  exact (show False from z).elim
end L3

namespace L3
open PySem PySem.Spec PyProof.Rows L2
section
variable {P : Program} {w : World} {K : PySem.W.Frag} {mg : Str → Option Value} {base : Heap}
/-- a def by its raw place (defaults may stand in it) -/
theorem dfnRX {x qual : Str} {st : Stmt} {f : Addr} {oc : Value} {od an : Option Addr} {osl : Array (Option Value)} {dV kV doc pm cdv ct : Value} {N ps : List Str} {k : Nat} {sp : DSp} {wb : RXe → WS}
    (lk : K.lookup f = some ⟨oc, od, .func (PySem.W.fnOf x qual (defArgs st) (defBody st) (defScope st) dV kV doc pm an cdv ct), osl⟩) (hcd : PySem.W.codeIn K cdv qual = true) (S : FnScope N ps (defScope st)) (len : ∀ ds M R RX, sp ds M R RX → ds.length = ps.length)
    (body : ∀ (A : Around) (outer : List Env) (s : Shared) (H : Hp) (E : XK), Room k (A.deeper (envOfC qual (defScope st) s.heap.objs.size f cdv)) → ∀ (B : Bs) (RX : RXe), Takes (cxOf (L2.CX P w) P w K mg base N qual (defScope st) f cdv A outer s H E) (WL K B RX) → DSs B (cxOf (L2.CX P w) P w K mg base N qual (defScope st) f cdv A outer s H E) (defBody st) (wb RX))
    (hw : ∀ ds M R RX, sp ds M R RX → M.all (cellOk M.length) = true → noCels M.length ds = true → wb (fun nm fs _ M' => rxF M.length RX nm fs M') (fnEnds M.length R) (startE N.length ds) M) :
    FnOk P w K mg base (L2.CX P w) (k + 1) f (PySem.W.fnOf x qual (defArgs st) (defBody st) (defScope st) dV kV doc pm an cdv ct) ps (toSp K sp) :=
  fn_of lk hcd S (fun vs H Q E h => by
    obtain ⟨P, al, M, ds, R, RX, _, r, hs, _⟩ := h
    rw [← r.length]; exact len _ _ _ _ hs) fun A outer s H vs Q E hr h => bodyX h (fun B RX => body A outer s H E hr B RX) hw
/-- a promise without defaults, by positional values -/
theorem fnR0 {CX : CXT} {k : Nat} {f : Addr} {fd : FuncData} {ps : List Str} {sp : Sp} (F : FnOk P w K mg base CX k f fd ps sp) (hb : Binds K fd ps []) : FnR P w K mg base CX k f sp :=
  (F.raw hb .nil).imp fun vs H Q E h => by rw [List.append_nil]; exact h
/-- one more default behind what is given -/
theorem binds_dflt {fd : FuncData} {ps : List Str} {ds : List Value} {T : Addr} {o : Obj} {items : Array Value} {n m : Nat} (hd : fd.defaults = .ref T) (ho : K.lookup T = some o) (hs : o.data = .seq items n) (hm : m + ds.length = ps.length)
    (h : ∀ us : List Value, us.length = m → ∃ k : Option (Array Value) → Sem (List (Str × Value)), bindArgs fd ⟨us, []⟩ = seqItems? fd.defaults >>= k ∧ k (some items) = pure (ps.zip (us ++ ds))) : Binds K fd ps ds := fun s us X hl => by
  obtain ⟨k, h1, h2⟩ := h us (by rw [List.length_append] at hl; omega)
  exact PySem.W.binds_K X hd ho hs h1 h2
end
/-! ### y = [..], a list that will change -/
section
variable {K : PySem.W.Frag} {B : Bs} {wi : WI} {g : TG} {is vs : List Nat} {t : WTs} {we : WE}
theorem lc_inM (bn : Binds1 K g is vs) {σ : L2.St} {H : Hp} {P : Hp} {al : List Addr} {M : Mt} {env : Ev} {R : D → Mt → Prop} {Q : VK} (rs : RS K B P al M env σ H) (hw : wLcM wi is t we vs env M R) (L : Lift K B P al env σ H R Q) : tLc (tDI K B wi) g (tDT K B t) (tD K B we) vs σ H Q := by
  have hw' : wi env M fun ds M1 => lcL is t we vs env ds [] M1 fun acc M2 => (fun (acc : List D) (M : Mt) (R : D → Mt → Prop) => R (.cel M.length) (M ++ [.lst acc])) acc M2 R := hw
  refine lc_imp (R := R) (fin := fun acc M R => R (.cel M.length) (M ++ [.lst acc])) bn (fun P al M σ H p acc vs R Q H0 P0 al0 rs e hp np na hb hv ra hr hq => ?_) rs hw' L
  have r1 := rs.toRS0.adopt (m := .lst acc) np na hb hv fun P' al' s h hn => ⟨hn, vs, hv, ra.mono s h⟩
  have e1 : Ext P0 al0 H0 P (al ++ [p]) H := ⟨e.pp, List.IsPrefix.trans e.pre (List.prefix_append _ _), e.fr, fun b m n => by
    rcases List.mem_append.mp m with z | z
    · exact e.new b z n
    · have : b = p := by simpa using z
      rw [this]; exact hp, e.pn⟩
  refine hq _ _ _ _ e1 ⟨r1, rs.slen, fun j d h => ?_⟩ (.cel ?_) hr
  · obtain ⟨v, h1, h2⟩ := rs.slot j d h
    exact ⟨v, h1, h2.mono (Same.refl _) (List.prefix_append _ _)⟩
  · rw [← rs.len, List.getElem?_append_right (Nat.le_refl _), Nat.sub_self]; rfl
end
section
variable {X : Cx} {B : Bs} {e : Expr} {tg elt : Expr} {ifs : List Expr} {scope : Scope} {own : List (Str × Nat)} {g : TG} {is : List Nat} {wi : WI} {t : WTs} {we : WE} {pos spos py : Pos} {i : Nat} {y : Str}
theorem d_setLcM (hc : X.calm = true) (hN : X.N.Nodup) (hy : X.N[i]? = some y) (hyl : X.env.scope.names.lookup y = some .local)
    (hsw : swapsWith (.ListComp elt [⟨tg, e, ifs, 0⟩] scope pos) (some (.Name y py)) spos.line X.env = pure true) (hi : DI B X tg e wi) (ok : BlkOk X.N X.env.scope scope own)
    (hg : ∀ (s : Shared) (H : Hp) (C : Addr) (cl : List (Str × Addr)) (fp : List Addr), PG (X.blk s H scope (compEnvC scope cl C X.env) fp) tg g) (bn : Binds1 X.K g is (own.map (·.2)))
    (ht : ∀ (s : Shared) (H : Hp) (C : Addr) (cl : List (Str × Addr)) (fp : List Addr), DTs B (X.blk s H scope (compEnvC scope cl C X.env) fp) ifs t)
    (he : ∀ (s : Shared) (H : Hp) (C : Addr) (cl : List (Str × Addr)) (fp : List Addr), DE B (X.blk s H scope (compEnvC scope cl C X.env) fp) elt we) (hs : ∀ x, foldedSetIterable e X.env x = pure x := by intro _; rfl) :
    DS B X (.Assign [.Name y py] (.ListComp elt [⟨tg, e, ifs, 0⟩] scope pos) spos) (wSetLc i (wLcM wi is t we (own.map (·.2)))) := by
  refine (ps_setLc (i := i) (tt := tDT X.K B t) (te := tD X.K B we) hc hN hy hyl hsw hi ok hg ht he hs).imp fun D σ H => ?_
  rintro ⟨P, al, M, env, k, rs, hw, L⟩
  exact lc_inM bn rs hw fun d M1 v H1 P1 al1 e1 rs1 r1 q => L.nx _ _ _ _ _ _ e1 (rs1.put i r1) q
end
end L3

namespace L3
open PySem PySem.Spec PyProof.Rows L2
/-! ### steps by what they ask: for walks -/
section
variable {M M0 T : Mt} {R : D → Mt → Prop} {x d : D} {n i : Nat} {l ds : List D} {env : Ev}
theorem range_map (lo : Int) (n : Nat) : rangeD lo n = (List.range n).map fun (k : Nat) => .int (lo + k) := by unfold rangeD; rfl
theorem range_len (lo : Int) (n : Nat) : (rangeD lo n).length = n := by rw [range_map]; simp
theorem range_get {lo : Int} {n i : Nat} {d : D} (h : (rangeD lo n)[i]? = some d) : i < n ∧ d = .int (lo + i) := by
  have hi : i < n := by
    have := (List.getElem?_eq_some_iff.mp h).1
    rwa [range_len] at this
  refine ⟨hi, ?_⟩
  rw [range_map, List.getElem?_map, List.getElem?_range hi] at h
  exact (Option.some.inj h).symm
theorem range_mem {lo : Int} {n : Nat} {d : D} (h : d ∈ rangeD lo n) : ∃ i : Nat, i < n ∧ d = .int (lo + i) := by
  rw [range_map] at h
  obtain ⟨k, h1, h2⟩ := List.mem_map.mp h
  exact ⟨k, List.mem_range.mp h1, h2.symm⟩
theorem view_at (h : M[i]? = some (.lst l)) : viewD M (.cel i) = .lst l := by simp only [viewD, h]
theorem len_use (h : viewD M x = .lst l) (k : R (.int l.length) M) : cLen [x] M R := by
  simp only [cLen, h, seqD]; exact k
theorem len_tup (h : viewD M x = .tup l) (k : R (.int l.length) M) : cLen [x] M R := by
  simp only [cLen, h, seqD]; exact k
theorem app_use (h : M[n]? = some (.lst l)) (hl : l.length < sizeLine) (k : R .non (M.set n (.lst (l ++ [d])))) : mAppend (.cel n) [d] M R := by
  simp only [mAppend, h]; exact ⟨⟨hl⟩, k⟩
theorem pop_use {j : Int} (h : M[n]? = some (.lst l)) (h0 : 0 ≤ j) (h1 : j < l.length) (hl : l.length < 2 ^ 62) (k : ∀ d, l[j.toNat]? = some d → R d (M.set n (.lst (l.eraseIdx j.toNat)))) : mPopAt (.cel n) [.int j] M R := by
  have hj : j.toNat < l.length := by omega
  have e : seqIndex? j l.length = some j.toNat := by
    unfold seqIndex?
    simp only [show ¬ j < 0 by omega, if_false]
    first | rw [if_pos (by omega)] | (split <;> simp_all <;> omega) | simp_all
  simp only [mPopAt, h, e]
  refine ⟨⟨by omega, by omega⟩, ?_⟩
  have e2 : l[j.toNat]? = some l[j.toNat] := List.getElem?_eq_getElem hj
  have := k _ e2
  rw [e2]; exact this
theorem setIx_use {j : Int} {Q : Mt → Prop} (h : M[n]? = some (.lst l)) (h0 : 0 ≤ j) (h1 : j < l.length) (k : Q (M.set n (.lst (l.set j.toNat d)))) : dsetIx d (.cel n) (.int j) M Q := by
  have e : ixN l.length j = some j.toNat := by unfold ixN; rw [if_pos h0, if_pos h1]
  simp only [dsetIx, h, e]; exact k
theorem last_get {x : D} : (M ++ [x])[M.length]? = some x := by simp
theorem last_set {x y : D} : (M ++ [x]).set M.length y = M ++ [y] := by simp
theorem setIx_last {j : Int} {Q : Mt → Prop} (hn : n = M.length) (h0 : 0 ≤ j) (h1 : j < l.length) (k : Q (M ++ [.lst (l.set j.toNat d)])) : dsetIx d (.cel n) (.int j) (M ++ [.lst l]) Q := by
  subst hn
  exact setIx_use last_get h0 h1 (by rw [last_set]; exact k)
theorem frz_last (hn : n = M.length) (k : R (.lst l) (M ++ [.non])) : frz (.cel n) (M ++ [.lst l]) R := by
  subst hn
  have e1 : (M ++ [D.lst l])[M.length]? = some (.lst l) := by simp
  have e2 : (M ++ [D.lst l]).set M.length .non = M ++ [.non] := by simp
  simp only [frz, e1, e2]; exact k
theorem len_str {s : Str} (h : viewD M x = .str s) (h2 : s.length ≤ sizeLine) (k : R (.int s.length) M) : cLen [x] M R := by
  simp only [cLen, h]; exact ⟨⟨h2⟩, k⟩
theorem app_last (hn : n = M.length) (hl : l.length < sizeLine) (k : R .non (M ++ [.lst (l ++ [d])])) : mAppend (.cel n) [d] (M ++ [.lst l]) R := by
  subst hn
  exact app_use last_get hl (by rw [last_set]; exact k)
theorem intsD_map : ∀ ns : List Int, intsD (ns.map D.int) = some ns
  | [] => rfl
  | a :: r => by simp only [List.map_cons, intsD, intsD_map r, Option.map_some]
theorem strsD_map : ∀ ns : List Str, strsD (ns.map D.str) = some ns
  | [] => rfl
  | a :: r => by simp only [List.map_cons, strsD, strsD_map r, Option.map_some]
theorem sum_use {ns : List Int} (h : viewD M x = .lst (ns.map D.int)) (k : R (.int ns.sum) M) : cSum [x] M R := by
  simp only [cSum, h, lstD, intsD_map]; exact k
theorem sortI_use {ns : List Int} (h : viewD M x = .lst (ns.map D.int)) (k : ∀ ns' : List Int, ns'.Perm ns → ns'.Pairwise (· ≤ ·) → R (.lst (ns'.map D.int)) M) : cSortI [x] M R := by
  simp only [cSortI, h, lstD, intsD_map]; exact k
theorem flatDs_strs : ∀ ns : List Str, flatDs (ns.map D.str) = some (ns.map V.str)
  | [] => rfl
  | a :: r => by simp only [List.map_cons, flatDs, flatD, flatDs_strs r]
theorem inV_strs (s : Str) : ∀ ns : List Str, inV (.str s) (ns.map V.str) = decide (s ∈ ns)
  | [] => rfl
  | a :: r => by
    have ih := inV_strs s r
    have e : inV (.str s) ((a :: r).map V.str) = ((a == s) || inV (.str s) (r.map V.str)) := rfl
    rw [e, ih]
    by_cases h : a = s
    · subst h; simp
    · have : (a == s) = false := by simpa using h
      rw [this]; simp [Ne.symm h]
theorem in_use {s : Str} {ns : List Str} {neg : Bool} (h : viewD M x = .lst (ns.map D.str) ∨ viewD M x = .tup (ns.map D.str)) (k : R (.bl (if neg then !decide (s ∈ ns) else decide (s ∈ ns))) M) : oIn neg (.str s) x M R := by
  rcases h with h | h <;> simp only [oIn, h, seqD, flatD, flatDs_strs, inV_strs] <;> exact k
theorem in_flat {s : Str} {vs : List V} {neg : Bool} (h : seqD (viewD M x) = some l) (h2 : flatDs l = some vs) (k : R (.bl (if neg then !inV (.str s) vs else inV (.str s) vs)) M) : oIn neg (.str s) x M R := by
  unfold oIn
  split
  · rename_i e; rw [e] at h; cases h
  · rw [h]; simp only [flatD, h2]; exact k
theorem in_str {s z : Str} {neg : Bool} (h : viewD M x = .str z) (k : R (.bl (if neg then !strIn s z else strIn s z)) M) : oIn neg (.str s) x M R := by
  have e : viewD M (.str s) = .str s := rfl
  simp only [oIn, h, e]; exact k
theorem cut_take (l : List D) (k : Nat) : cutD l none (some (k : Int)) = l.take k := by
  unfold cutD
  rw [HT.sIx_none, HT.sIx_nat, List.drop_zero, Nat.sub_zero, List.take_eq_take_iff]
  omega
/-- the items of plain integers are told apart -/
theorem eqvAll_ints : ∀ ns ms : List Int, PyData.eqvAll (ns.map PyData.int) (ms.map PyData.int) = decide (ns = ms)
  | [], [] => rfl
  | [], _ :: _ => rfl
  | _ :: _, [] => rfl
  | a :: r, b :: s => by
    have ih := eqvAll_ints r s
    simp only [List.map_cons, PyData.eqvAll, ih, PyData.eqv]
    by_cases h : a = b <;> by_cases h2 : r = s <;> simp [h, h2]
theorem shaped_ints (ns : List Int) : SeqAt.shaped (.list (ns.map PyData.int)) = true := shaped_map (fun _ _ => rfl) fun _ _ => Nat.zero_le _
theorem ne_ints {y : D} {f : Bool → Bool} {ns ms : List Int} (hx : viewD M x = .lst (ns.map D.int)) (hy : viewD M y = .lst (ms.map D.int)) (k : R (.bl (f (decide (ns = ms)))) M) : oEqB f x y M R := by
  have e1 : toP (.lst (ns.map D.int)) = some (.list (ns.map .int)) := by simp only [toP, toPs_map (f := D.int) (g := PyData.int) (fun _ => rfl) ns, Option.map_some]
  cases ms with
  | nil =>
    simp only [oEqB, hx, hy, List.map_nil]
    refine ⟨⟨plain_ints _⟩, ?_⟩
    have : (ns.map D.int).isEmpty = decide (ns = []) := by cases ns <;> rfl
    rw [this]; exact k
  | cons b s =>
    have e2 : toP (.lst (D.int b :: s.map D.int)) = some (.list ((b :: s).map .int)) := by
      have : toP (.lst ((b :: s).map D.int)) = some (.list ((b :: s).map .int)) := by simp only [toP, toPs_map (f := D.int) (g := PyData.int) (fun _ => rfl) (b :: s), Option.map_some]
      exact this
    simp only [oEqB, hx, hy, List.map_cons, e1, e2]
    refine ⟨⟨shaped_ints _⟩, ⟨shaped_ints (b :: s)⟩, ?_⟩
    have : PyData.eqv (.list (ns.map .int)) (.list ((b :: s).map .int)) = decide (ns = b :: s) := by
      rw [← eqvAll_ints]; simp only [PyData.eqv]
    rw [List.map_cons] at this
    rw [this]; exact k
/-- fields of the object at a place of the table -/
theorem setF_use {n f : Str} {Q : Mt → Prop} {fs : List (Str × D)} (q : Q (M0 ++ .obj n (putFD f d fs) :: T)) (hl : fs.length < 1000 := by decide) : dsetF n f d (.cel M0.length) (M0 ++ .obj n fs :: T) Q := by
  have e1 : (M0 ++ D.obj n fs :: T)[M0.length]? = some (.obj n fs) := by simp
  have e2 : (M0 ++ D.obj n fs :: T).set M0.length (.obj n (putFD f d fs)) = M0 ++ .obj n (putFD f d fs) :: T := by simp
  simp only [dsetF, e1, e2]
  exact ⟨⟨by first | trivial | exact ⟨rfl, hl⟩ | exact ⟨trivial, hl⟩⟩, q⟩
theorem mkEnd_i {fs : List (Str × D)} {n : Str} (h : noCelF M.length fs = true) (k : R (.obj n fs) M) : mkEnd M R (M ++ [.obj n fs]) := by
  unfold mkEnd; exact ⟨n, fs, rfl, ⟨h⟩, k⟩
/-- a comprehension that changes the table: what holds behind each item -/
theorem lcL_inv {is vs : List Nat} {t : WTs} {we : WE} {env : Ev} (I : Nat → List D → Mt → Prop) {ds : List D} {M : Mt} {R : List D → Mt → Prop} (hl : ds.length ≤ sizeLine) (h0 : I 0 [] M)
    (hs : ∀ (i : Nat) (d : D) (acc : List D) (M : Mt) (A : D → Mt → Prop) (C : Mt → Prop), ds[i]? = some d → I i acc M → (∀ y M3, I (i + 1) (acc ++ [y]) M3 → A y M3) → (∀ M3, I (i + 1) acc M3 → C M3) →
      bnd is d (wipeE env vs) fun env1 => t env1 M fun b M2 => ifB b (we env1 M2 A) (C M2))
    (hd : ∀ acc M, acc.length ≤ ds.length → I ds.length acc M → R acc M) : lcL is t we vs env ds [] M R := by
  have key : ∀ (n i : Nat), i + n = ds.length → ∀ acc M, acc.length ≤ i → I i acc M → lcL is t we vs env (ds.drop i) acc M R := by
    intro n
    induction n with
    | zero =>
      intro i hi acc M ha h
      rw [List.drop_eq_nil_of_le (by omega)]
      have : i = ds.length := by omega
      subst this
      exact hd _ _ ha h
    | succ n ih =>
      intro i hi acc M ha h
      have hlt : i < ds.length := by omega
      rw [List.drop_eq_getElem_cons hlt]
      exact hs i _ acc M _ _ (List.getElem?_eq_getElem hlt) h (fun y M3 h3 => ⟨⟨by omega⟩, ih (i + 1) (by omega) _ _ (by simp; omega) h3⟩) fun M3 h3 => ih (i + 1) (by omega) _ _ (by omega) h3
  have := key ds.length 0 (by omega) [] M (Nat.le_refl _) h0
  simpa using this
theorem noCels_mem {n : Nat} : ∀ {l : List D}, noCels n l = true ↔ ∀ d ∈ l, noCel n d = true
  | [] => by simp [noCels]
  | a :: r => by simp only [noCels, Bool.and_eq_true, noCels_mem (l := r), List.mem_cons, forall_eq_or_imp]
theorem noCels_strs {n : Nat} (ss : List Str) : noCels n (ss.map D.str) = true := noCels_mem.mpr fun d hd => by
  obtain ⟨s, _, rfl⟩ := List.mem_map.mp hd; rfl
end
end L3

namespace L3
open PySem PySem.Spec PyProof.Rows L2
/-! ### promises that hold where no guard of a repr stands -/
section
variable {P : Program} {w : World} {K : PySem.W.Frag} {mg : Str → Option Value} {base : Heap} {CX : CXT}
/-- what a def promises to callers around which nothing is being told -/
structure FnG (P : Program) (w : World) (K : PySem.W.Frag) (mg : Str → Option Value) (base : Heap) (CX : CXT) (k : Nat) (f : Addr) (fd : FuncData) (ps : List Str) (sp : Sp) : Prop where
  len : ∀ vs H Q E, sp vs H Q E → vs.length = ps.length
  run : ∀ (A : Around) (outer : List Env) (s : Shared) (H : Hp) (args : Args) (us : List Value) (vs : List V) (Q : VK) (E : XK), A.guards = some [] → Room k A → Env0 P w K mg base A outer s H →
    BindsTo s fd args (ps.zip us) → Vals vs us → sp vs H Q E → codeAny (model P w) A (.call (.ref f) args) (CR CX outer P w H s Q E) s
theorem FnG.of {k : Nat} {f : Addr} {fd : FuncData} {ps : List Str} {sp : Sp} (F : FnOk P w K mg base CX k f fd ps sp) : FnG P w K mg base CX k f fd ps sp :=
  ⟨F.len, fun A outer s H args us vs Q E _ => F.run A outer s H args us vs Q E⟩
theorem FnG.mono {j k : Nat} {f : Addr} {fd : FuncData} {ps : List Str} {sp : Sp} (F : FnG P w K mg base CX j f fd ps sp) (h : j ≤ k) : FnG P w K mg base CX k f fd ps sp :=
  ⟨F.len, fun A outer s H args us vs Q E hg hr => F.run A outer s H args us vs Q E hg (hr.mono h)⟩
theorem deeper_guards {A : Around} {env : Env} (h : A.guards = some []) : (A.deeper env).guards = some [] := by
  first | exact h | (simpa [Around.deeper] using h)
/-- a def by its body -/
theorem fnG_of {x qual : Str} {st : Stmt} {f : Addr} {fd : FuncData} {N ps : List Str} {k : Nat} {sp : Sp} (F : Fun K x qual st f fd) (sc : FnScope N ps (defScope st)) (len : ∀ vs H Q E, sp vs H Q E → vs.length = ps.length)
    (body : ∀ (cdv : Value) (A : Around) (outer : List Env) (s : Shared) (H : Hp) (vs : List V) (Q : VK) (E : XK), A.guards = some [] → Room k (A.deeper (envOfC qual (defScope st) s.heap.objs.size f cdv)) → sp vs H Q E →
      ∃ t, PSs (cxOf CX P w K mg base N qual (defScope st) f cdv A outer s H E) (defBody st) t ∧ t { nx := fun _ H' => Q .non H', rt := Q } (start N vs) H) : FnG P w K mg base CX (k + 1) f fd ps sp := by
  obtain ⟨oc, od, kV, doc, pm, an, cdv, ct, osl, rfl, look, code⟩ := F.ex
  constructor
  · exact len
  intro A outer s H args us vs Q E hg room env0 binds vals asked
  have inK : K.In s.heap := (env0.mod.kin).keeps fun b o at_b => (env0.bs b o at_b).1
  have free : s.heap.NoLimit := (env0.mod.nolimit).keeps fun b o at_b => (env0.bs b o at_b).1
  have kinds : ∀ z ∈ ps.zip us, (defScope st).names.lookup z.1 = some .local ∨ ((defScope st).names.lookup z.1 = some .cell ∧ ((cellsFrom (s.heap.objs.size + 1) (defScope st).names []).lookup z.1).isSome = true) := by
    rintro ⟨n, v⟩ hz
    cases sc.par n (List.of_mem_zip hz).1 with
    | inl q => exact Or.inl q
    | inr q => exact Or.inr (And.intro q (PySem.W.cellsFrom_some _ _ _ (Or.inl q)))
  apply codeAny_call_function room.depth (inK _ _ look) rfl sc.co sc.gen rfl (PySem.W.codeRec_of inK code)
  apply binds
  apply wpAny_newFunctionEnv_cells sc.kind kinds
  intro env is_env s1 inside
  subst is_env
  constructor
  · exact free.keeps inside.toInCall.keep
  apply codeAny_func
  obtain ⟨t, walk, start_ok⟩ := body cdv A outer s H vs Q E hg (room.deeper _) asked
  have inv0 := inv_start (CX := CX) (E := E) (qual := qual) (f := f) (cd := cdv) sc room.hd env0 (len _ _ _ _ asked) vals inside
  have ran := walk.run [] s1 (start N vs) H _ inv0 start_ok
  refine wpAny_mono ran ?_ ?_
  · intro flow s2 got
    cases flow with
    | next =>
      obtain ⟨σ2, H2, J, q⟩ := got
      exact ⟨.non, H2, J.os, J.bare, J.base, J.hok, rfl, q⟩
    | ret u =>
      obtain ⟨v, σ2, H2, J, rv, q⟩ := got
      exact ⟨v, H2, J.os, J.bare, J.base, J.hok, rv, q⟩
    | brk => obtain ⟨_, _, _, no⟩ := got; exact no.elim
    | cont => obtain ⟨_, _, _, no⟩ := got; exact no.elim
  · exact fun e s2 got => got
end
end L3
namespace L3
open PySem PySem.Spec PyProof.Rows L2
section
variable {X : Cx} {B : Bs} {CX : CXT} {k : Nat} {f : Addr} {fd : FuncData} {ps : List Str} {sp : DSp} {x : Str} {p pos : Pos} {e : Expr} {es : List Expr} {was : WA} {RX : RXe}
/-- such a def is called -/
theorem run_G {sq : Sp} {E : XK} {pins : List (Addr × Obj)} {σ : L2.St} {H : Hp} {s : Shared} {Q : VK} {us : List Value} {vs : List V} (F : FnG X.prog X.w X.K X.mg X.base CX k f fd ps sq) (quiet : X.A.guards = some []) (room : Room k X.A) (binds : Binds X.K fd ps [])
    (pass : PassesAt CX X σ E) (I : Inv X pins σ H s) (r : Vals vs us) (asked : sq vs H Q E) : wpAny (model X.prog X.w) X.A (call (.ref f) us) (EP X pins σ Q) X.xe s := by
  have many : us.length = (ps ++ []).length - ([] : List Value).length := by rw [← r.length, F.len _ _ _ _ asked]; simp
  have bound := binds s us I.kIn (by simp only [List.append_nil, List.length_nil, Nat.sub_zero] at many ⊢; exact many)
  simp only [List.append_nil] at bound
  apply wpAny_call
  apply codeAny_mono (F.run X.A X.stack s H ⟨us, []⟩ us vs Q E quiet room I.env0 bound r asked)
  intro res s2 got
  match res, got with
  | .error err, got => exact pass pins H s err s2 I got
  | .ok (.ret u), got => exact I.after got
  | .ok .next, got => exact got.elim
  | .ok .brk, got => exact got.elim
  | .ok .cont, got => exact got.elim
theorem d_callG (F : FnG X.prog X.w X.K X.mg X.base CX k f fd ps (toSp X.K sp)) (quiet : X.A.guards = some []) (room : Room k X.A) (pass : Rz X B CX RX) (hg : Gl X x) (hm : X.mg x = some (.ref f)) (hk : PySem.W.keepIn X.K (.ref f) = true) (hb : Binds X.K fd ps [])
    (ha : DA B X (e :: es) was) (hdb : (x == ("__debug__" : Str)) = false := by decide) (he : starEach (e :: es) X.env = (false, eval e X.env) :: starEach es X.env := by rfl) (hpl : (backTo pos (starEach es X.env)).any (·.1) = false := by rfl) :
    DE B X (.Call (.Name x p) (e :: es) [] pos) (wCallX sp [] RX was) := by
  constructor
  rintro pins s σ H Q I ⟨P, al, M, env, R, rs, hw, L⟩
  apply wpAny_Call_Name_kw (ld_glob I hg hm ?_ hdb)
  apply PySem.W.callWith_K (h₀ := X.base) I.ok.mod.kin hk ?_ he hpl
  refine thn (ha.run pos pins s σ H (fun vs H1 => toSp X.K sp vs H1 Q (L2.WE (WL X.K B RX) σ)) I ⟨P, al, M, env, _, rs, hw, ?_⟩) ?_
  · intro ds M1 vs H1 P1 al1 e1 rs1 r1 q
    rw [List.append_nil] at q
    exact sp_at rs1 r1 (L.after e1) q
  · rintro us s1 ⟨vs, H1, I1, r, q⟩
    exact ⟨I1.kIn, run_G F quiet room hb (pass _) I1 r q⟩
end
section
variable {P : Program} {w : World} {K : PySem.W.Frag} {mg : Str → Option Value} {base : Heap}
/-- a def whose body asks for repr -/
theorem dfnG {x qual : Str} {st : Stmt} {f : Addr} {fd : FuncData} {N ps : List Str} {k : Nat} {sp : DSp} (F : Fun K x qual st f fd) (S : FnScope N ps (defScope st)) (len : ∀ ds M R RX, sp ds M R RX → ds.length = ps.length)
    (body : ∀ (B : Bs) (cdv : Value) (A : Around) (outer : List Env) (s : Shared) (H : Hp) (E : XK), A.guards = some [] → Room k (A.deeper (envOfC qual (defScope st) s.heap.objs.size f cdv)) →
      ∃ wb : RXe → WS, (∀ RX : RXe, Takes (cxOf (L2.CX P w) P w K mg base N qual (defScope st) f cdv A outer s H E) (WL K B RX) → DSs B (cxOf (L2.CX P w) P w K mg base N qual (defScope st) f cdv A outer s H E) (defBody st) (wb RX)) ∧
        ∀ ds M R RX, sp ds M R RX → M.all (cellOk M.length) = true → noCels M.length ds = true → wb (fun nm fs _ M' => rxF M.length RX nm fs M') (fnEnds M.length R) (startE N.length ds) M) :
    FnG P w K mg base (L2.CX P w) (k + 1) f fd ps (toSp K sp) := by
  refine fnG_of F S (fun vs H Q E h => ?_) (fun cdv A outer s H vs Q E quiet hr h => ?_)
  · obtain ⟨P, al, M, ds, R, RX, _, r, hs, _⟩ := h
    rw [← r.length]; exact len _ _ _ _ hs
  · obtain ⟨Pp, al, M, ds, R, RX, r0, r, hs, L, LX⟩ := h
    obtain ⟨wb, hb, hw⟩ := body (Pp, al, H) cdv A outer s H E quiet hr
    have el := r0.len
    have fin : ∀ d M' v H' P' al', Ext Pp al H P' al' H' → RS0 K (Pp, al, H) P' al' M' H' → Rep K P' al' d v → retF M.length R d M' → Q v H' := fun d M' v H' P' al' e r' rd q => by
      cases q with
      | keep q => exact L d M' v H' P' al' e r' rd q
      | less q1 q2 q3 =>
        rw [← el] at q1 q2 q3
        refine L d _ v H' P' al ⟨e.pp, List.prefix_refl _, e.fr, fun b m n => absurd m n, e.pn⟩ (r'.drop fun i m hi hm => ?_) (rd.cut e.pre q1) q3
        exact List.all_eq_true.mp q2 m (List.mem_of_getElem? (by rw [List.getElem?_take_of_lt hi]; exact hm))
    have finX : ∀ C nm fs M' H' P' al' dd, Ext Pp al H P' al' H' → RS0 K (Pp, al, H) P' al' M' H' → ClsAt K nm C → XdOk K P' al' H' fs dd → rxF M.length RX nm fs M' → E (.ref C) dd H' := fun C nm fs M' H' P' al' dd e r' c xd q => by
      cases q with
      | keep q => exact LX C nm fs M' H' P' al' dd e r' c xd q
      | less q1 q2 q3 =>
        rw [← el] at q1 q2 q3
        refine LX C nm fs _ H' P' al dd ⟨e.pp, List.prefix_refl _, e.fr, fun b m n => absurd m n, e.pn⟩ (r'.drop fun i m hi hm => ?_) c (xd.cut e.pre q1) q3
        exact List.all_eq_true.mp q2 m (List.mem_of_getElem? (by rw [List.getElem?_take_of_lt hi]; exact hm))
    obtain ⟨s1, s2⟩ := start_slots (N := N) r
    refine ⟨_, hb _ ((takes_of rfl rfl rfl rfl).imp fun c d σ H' h => ?_), Pp, al, M, _, _, ⟨r0, s1, s2⟩, hw ds M R RX hs r0.inside (by rw [← el]; exact r.inside), ⟨fun env' M' σ' H' P' al' e rs q => fin _ _ _ _ _ _ e rs.toRS0 .non q, fun d M' v H' P' al' e rs rd q => fin _ _ _ _ _ _ e rs rd q, fun _ _ _ _ _ _ _ _ z => z.elim, fun _ _ _ _ _ _ _ _ z => z.elim⟩⟩
    obtain ⟨C, nm, fs, env, P', al', M', rfl, c, rs, xd, q⟩ := h
    exact finX C nm fs M' H' P' al' d rs.base rs.toRS0 c xd q
end
end L3

namespace L3
open PySem PySem.Spec PyProof.Rows L2
/-! ### the end of a law whose promise is a quiet one -/
section
/-- the law at its script, in a heap where no more than the script is tracked -/
theorem lawG_at {P : Program} {w : World} {K : PySem.W.Frag} {mg mb : Str → Option Value} {CX : CXT} {k : Nat} {fa a : Addr} {fd : FuncData} {x : Str} {sp : Sp} {s : Shared} {vs : List Value} {H : Hp}
    (inK : K.In s.heap) (glob : s.heap.Ns mainGlobals mg) (bi : s.heap.Ns builtinsNs mb) (boot : ∀ x : Str, x ≠ "__name__" → mb x = bootBuiltins x) (free : s.heap.NoLimit) (none_yet : s.gens = #[])
    (script : s.heap.get? a = some { cls := .type "list", data := .seq vs.toArray }) (room : Room k callerA)
    (F : ∀ base : Heap, K.In base → base.Ns mainGlobals mg → FnG P w K mg base CX k fa fd [x] sp) (binds : ∀ (s : Shared) (u : Value), BindsTo s fd ⟨[u], []⟩ [(x, u)])
    (asked : sp [.ref a] H (fun v _ => v = .bl true) fun _ _ _ => False) (clean : ∀ e s', CX [] H s (fun _ _ _ => False) e s' → False)
    (only : Only H) (ok : HOk P w H s.heap) (alone : ∀ b, H b ≠ none → b = a) (apart : H a ≠ none → K.lookup a = none) :
    codeAny (model P w) callerA (.call (.ref fa) ⟨[.ref a], []⟩) (fun r s' => r = .ok (.ret (.bool true)) ∧ OldK s.heap s'.heap ∧ s'.os = s.os ∧ AllBare s'.gens) s := by
  -- what is no dict of the script's stays in the written part
  have untracked : ∀ {b : Addr} {o : Obj} {es : Array DictEntry} {ep : Nat}, s.heap.get? b = some o → o.data = .dict es ep → H b = none := by
    intro b o es ep at_b is_dict
    by_cases hb : H b = none
    · exact hb
    · obtain rfl := alone b hb
      rw [script] at at_b
      cases at_b
      cases is_dict
  have kept_ns : ∀ {b : Addr} {m : Str → Option Value}, s.heap.Ns b m → (hidT s.heap H).Ns b m := by
    rintro b m ⟨o, es, ep, at_b, is_dict, rest⟩
    exact ⟨o, es, ep, hidT_get at_b (untracked at_b is_dict), is_dict, rest⟩
  have in_base : K.In (hidT s.heap H) := by
    intro b o at_b
    apply hidT_get (inK b o at_b)
    by_cases hb : H b = none
    · exact hb
    · obtain rfl := alone b hb
      rw [apart hb] at at_b
      cases at_b
  have lim : (hidT s.heap H).NoLimit := by
    obtain ⟨mc, q1, q2⟩ := free
    exact ⟨mc, kept_ns q1, q2⟩
  have module : Mod K mg (hidT s.heap H) := ⟨in_base, kept_ns glob, ⟨mb, kept_ns bi, boot⟩, lim⟩
  have start_env : Env0 P w K mg (hidT s.heap H) callerA [] s H := by
    refine ⟨rfl, module, fun b o at_b => of_hidT at_b, Nat.le_of_eq (hidT_size _ _), trivial, ?_, ok, AllBare.of_eq none_yet⟩
    intro b hb
    cases (show b ∈ ([] : List Addr) from hb)
  have ran := (F _ in_base (kept_ns glob)).run callerA [] s H ⟨[.ref a], []⟩ [.ref a] [.ref a] _ _ rfl room start_env (binds s (.ref a)) (.cons rfl .nil) asked
  refine codeAny_mono ran ?_
  intro r s' got
  match r, got with
  | .error e, got => exact (clean e s' got).elim
  | .ok .next, got => exact got.elim
  | .ok .brk, got => exact got.elim
  | .ok .cont, got => exact got.elim
  | .ok (.ret u), got =>
    obtain ⟨v, H2, same_os, bare, un, ok2, rv, is_true⟩ := got
    have is_true' : v = .bl true := is_true
    subst is_true'
    have eu : u = Value.bool true := rv
    subst eu
    refine ⟨rfl, OldK.of_keep ?_, same_os, bare⟩
    intro b o at_b
    cases hb : H b with
    | none => exact un.keep b o at_b hb (fun z => by cases (show b ∈ ([] : List Addr) from z)) (by simp)
    | some u =>
      cases only b with
      | inl z => rw [hb] at z; cases z
      | inr z =>
        obtain ⟨ob, xs, z⟩ := z
        obtain ⟨e1, _⟩ := ok b _ z
        obtain ⟨e2, _⟩ := ok2 b _ (un.frzs b ob _ z)
        rw [at_b] at e1
        cases e1
        exact e2
theorem lawG_call {P : Program} {w : World} {K : PySem.W.Frag} {mg mb : Str → Option Value} {CX : CXT} {k : Nat} {fa a : Addr} {fd : FuncData} {x : Str} {sp : Sp} {s : Shared} {vs : List Value} {ns : List Int}
    (inK : K.In s.heap) (glob : s.heap.Ns mainGlobals mg) (bi : s.heap.Ns builtinsNs mb) (boot : ∀ x : Str, x ≠ "__name__" → mb x = bootBuiltins x) (free : s.heap.NoLimit) (none_yet : s.gens = #[])
    (script : s.heap.get? a = some { cls := .type "list", data := .seq vs.toArray }) (whole : IntsAre vs ns) (few : ns.length ≤ sizeLine) (room : Room k callerA)
    (F : ∀ base : Heap, K.In base → base.Ns mainGlobals mg → FnG P w K mg base CX k fa fd [x] sp) (binds : ∀ (s : Shared) (u : Value), BindsTo s fd ⟨[u], []⟩ [(x, u)])
    (asked : ∀ H : Hp, Only H → SqL K H a (ns.map V.int) → sp [.ref a] H (fun v _ => v = .bl true) fun _ _ _ => False) (clean : ∀ H e s', CX [] H s (fun _ _ _ => False) e s' → False) :
    codeAny (model P w) callerA (.call (.ref fa) ⟨[.ref a], []⟩) (fun r s' => r = .ok (.ret (.bool true)) ∧ OldK s.heap s'.heap ∧ s'.os = s.os ∧ AllBare s'.gens) s := by
  have vals := vals_ints whole
  have long := whole.length
  by_cases written : ∃ o, K.lookup a = some o
  · obtain ⟨o, at_a⟩ := written
    have there := inK a o at_a
    rw [script] at there
    cases there
    have only : Only fun _ => none := fun _ => Or.inl rfl
    refine lawG_at (H := fun _ => none) inK glob bi boot free none_yet script room F binds (asked _ only ?_) (clean _) only ?_ (fun b z => absurd rfl z) (fun z => absurd rfl z)
    · exact Or.inr ⟨_, vs.toArray, _, at_a, rfl, rfl, rfl, by rw [List.size_toArray, long]; exact few, by simpa using vals⟩
    · intro b u z
      cases (show (none : Option HO) = some u from z)
  · have not_there : K.lookup a = none := by
      cases h : K.lookup a with
      | none => rfl
      | some o => exact absurd ⟨o, h⟩ written
    obtain ⟨H, hH⟩ : ∃ H : Hp, H = fun b => if b = a then some (.frz { cls := .type "list", data := .seq vs.toArray } (.lst (ns.map V.int))) else none := ⟨_, rfl⟩
    have at_a : H a = some (.frz { cls := .type "list", data := .seq vs.toArray } (.lst (ns.map V.int))) := by rw [hH]; exact if_pos rfl
    have off_a : ∀ b, b ≠ a → H b = none := fun b hb => by rw [hH]; exact if_neg hb
    have only : Only H := by
      intro b
      by_cases hb : b = a
      · subst hb; exact Or.inr ⟨_, _, at_a⟩
      · exact Or.inl (off_a b hb)
    refine lawG_at (H := H) inK glob bi boot free none_yet script room F binds (asked _ only ?_) (clean _) only ?_ ?_ (fun _ => not_there)
    · exact Or.inl (Or.inr ⟨_, at_a⟩)
    · intro b u z
      by_cases hb : b = a
      · subst hb
        rw [at_a] at z
        cases z
        exact ⟨script, by rw [List.length_map]; exact few, vs, _, vals, script⟩
      · rw [off_a b hb] at z; cases z
    · intro b z
      by_cases hb : b = a
      · exact hb
      · exact absurd (off_a b hb) z
/-- what the law's row wants, of the law's promise -/
theorem walk_ofG {l : PySem.W.OpenLaw} {n k : Nat} {q : Program} {loose : List Str} {XP : (Str → Option Value) → Heap → Prop} {YP : World → Heap → Prop} {d : DefRec} {K : Params → PySem.W.Frag} {CX : World → CXT} {sp : World → Sp} {x : Str}
    (most : l.most = some n) (few : n ≤ sizeLine) (plain : d.params.defaults = []) (room : Room k callerA) (kin : ∀ (w : World) (h : Heap), YP w h → (K w.params).In h)
    (F : ∀ (w : World) (mg : Str → Option Value) (fa : Addr) (h : Heap), (K w.params).In h → h.Ns mainGlobals mg → mg d.name = some (.ref fa) →
      ∃ fd : FuncData, (∀ (s : Shared) (u : Value), BindsTo s fd ⟨[u], []⟩ [(x, u)]) ∧ ∀ base : Heap, (K w.params).In base → base.Ns mainGlobals mg → FnG l.prog w (K w.params) mg base (CX w) k fa fd [x] (sp w))
    (asked : ∀ (w : World) (H : Hp) (a : Addr) (ns : List Int), ns.length ≤ n → Only H → SqL (K w.params) H a (ns.map V.int) → sp w [.ref a] H (fun v _ => v = .bl true) fun _ _ _ => False)
    (clean : ∀ (w : World) (H : Hp) (s : Shared) (e : Value) (s' : Shared), CX w [] H s (fun _ _ _ => False) e s' → False) : PySem.W.WalkO q loose XP YP l.row.toRowW d [] (fun f vs => PySem.call f vs) := by
  apply Att.attach_call most plain
  intro w s0 s1 mg mb fa o pm cd doc a vs ns G Y there is_fn code name script whole short bare
  obtain ⟨fd, binds, promise⟩ := F w mg fa _ (kin w _ Y) G.T.g name
  exact lawG_call (kin w _ Y) G.T.g G.T.b G.T.builtins G.T.nolimit bare script whole (Nat.le_trans short few) room promise binds (fun H o q => asked w H a ns short o q) fun H e s' => clean w H s1 e s'
end
end L3

namespace L3
open PySem PySem.Spec PyProof.Rows PyProof.V L2
/-! ### repr of data -/
mutual
theorem dp_nodict {K : PySem.W.Frag} {H : Hp} : ∀ {v : V} {p : PyData}, Dp K H v p → p.hasDict = false
  | _, _, .non => by simp [PyData.hasDict]
  | _, _, .bl b => by simp [PyData.hasDict]
  | _, _, .int i => by simp [PyData.hasDict]
  | _, _, .str x => by simp [PyData.hasDict]
  | _, _, .lst _ h => by simpa [PyData.hasDict] using dpAll_nodict h
  | _, _, .tup _ h => by simpa [PyData.hasDict] using dpAll_nodict h
theorem dpAll_nodict {K : PySem.W.Frag} {H : Hp} : ∀ {vs : List V} {ps : List PyData}, DpAll K H vs ps → PyData.hasDictAll ps = false
  | _, _, .nil => by simp [PyData.hasDictAll]
  | _, _, .cons h t => by simp [PyData.hasDictAll, dp_nodict h, dpAll_nodict t]
end
/-- scalars -/
def scal : D → Option PyData
  | .non => some .none
  | .bl b => some (.bool b)
  | .int i => some (.int i)
  | .str s => some (.str s)
  | _ => none
def keyP : Key → PyData
  | .inl i => .int i
  | .inr s => .str s
def scalK : List (Key × D) → Option (List (PyData × PyData))
  | [] => some []
  | (k, d) :: r => match scal d, scalK r with
    | some p, some ps => some ((keyP k, p) :: ps)
    | _, _ => none
inductive ScV : V → PyData → Prop
  | non : ScV .non .none
  | bl (b : Bool) : ScV (.bl b) (.bool b)
  | int (i : Int) : ScV (.int i) (.int i)
  | str (s : Str) : ScV (.str s) (.str s)
inductive ScKV : List (Key × V) → List (PyData × PyData) → Prop
  | nil : ScKV [] []
  | cons {k : Key} {v : V} {p : PyData} {r : List (Key × V)} {ps : List (PyData × PyData)} : ScV v p → ScKV r ps → ScKV ((k, v) :: r) ((keyP k, p) :: ps)
theorem scal_rep {K : PySem.W.Frag} {P : Hp} {al : List Addr} {d : D} {v : V} {p : PyData} (r : Rep K P al d v) (e : scal d = some p) : ScV v p := by
  cases r <;> simp [scal] at e <;> subst e
  · exact .non
  · exact .bl _
  · exact .int _
  · exact .str _
theorem scalK_rep {K : PySem.W.Frag} {P : Hp} {al : List Addr} : ∀ {ks : List (Key × D)} {kvs : List (Key × V)} {ps : List (PyData × PyData)}, RepKs K P al ks kvs → scalK ks = some ps → ScKV kvs ps
  | _, _, _, .nil, e => by cases e; exact .nil
  | _, _, _, .cons r t, e => by
    unfold scalK at e
    split at e
    · rename_i p ps h1 h2
      cases e
      exact .cons (scal_rep r h1) (scalK_rep t h2)
    · cases e
theorem sc_reads {h : Heap} {v : V} {u : Value} {p : PyData} (c : ScV v p) (r : RelV v u) : Reads h u p [] := by
  cases c with
  | non => cases r; exact .none
  | bl b => cases r; exact .bool b
  | int i => obtain ⟨t, rfl⟩ := r; exact .int i t
  | str s => obtain ⟨t, rfl⟩ := r; exact .str s t
theorem sc_pairs {h : Heap} : ∀ {kvs : List (Key × V)} {vs : List (Key × Value)} {ps : List (PyData × PyData)}, ScKV kvs ps → KV kvs vs → PairsRead h keyP vs ps []
  | _, _, _, .nil, q => by cases q; exact .nil
  | _, _, _, .cons (k := k) c t, q => by
    cases q with
    | cons r rs =>
      rename_i y ys
      obtain ⟨k', u⟩ := y
      obtain ⟨e, r⟩ := r
      have e' : k = k' := e
      subst e'
      exact PairsRead.cons (as := []) (bs := []) (sc_reads c r) (sc_pairs t rs)
theorem key_reads {h : Heap} (k : Key) (u : Value) (e : keyIs k u = true) : Reads h u (keyP k) [] := by
  rcases keyIs_shape e with ⟨i, t, rfl, rfl⟩ | ⟨x, t, rfl, rfl⟩
  · exact .int i t
  · exact .str x t
/-- what repr can be asked of: plain data, or a dict of scalars -/
def RpV (K : PySem.W.Frag) (H : Hp) (v : V) (p : PyData) : Prop := Dp K H v p ∨ ∃ a kvs ps, v = .ref a ∧ H a = some (.dK kvs) ∧ ScKV kvs ps ∧ p = .dict ps
def RpOk (p : PyData) : Prop := p.showable = true ∧ p.depth ≤ 60 ∧ p.shown.length ≤ sizeLine
def rReprK (K : PySem.W.Frag) : List V → Hp → VK → Prop := fun xs H Q => ∃ v p, xs = [v] ∧ RpV K H v p ∧ RpOk p ∧ Q (.str p.shown) H
theorem repr_K {X : Cx} (quiet : X.A.guards = some []) (room : X.A.units + 64 < cLine) : CallR X (.builtin "repr") (rReprK X.K) := by
  intro pins s σ H xs us Q I r h
  obtain ⟨v, p, rfl, hd, ⟨hs, hdep, hsz⟩, q⟩ := h
  obtain ⟨u, rfl, rv⟩ := vals1 r
  have rd : ∃ as, Reads s.heap u p as ∧ (p.hasDict = true → sysModules ∉ as) := by
    rcases hd with hd | ⟨a, kvs, ps, rfl, ha, hk, rfl⟩
    · obtain ⟨as, h1⟩ := Dp.reads I p v u hd rv
      exact ⟨as, h1, fun z => by rw [dp_nodict hd] at z; cases z⟩
    · cases rv
      obtain ⟨_, lo, vs, rel, dd⟩ := dk_of I.hok ha
      refine ⟨[a], reads_dictOf (enc := keyP) key_reads dd (sc_pairs hk rel), fun _ z => ?_⟩
      have e : sysModules = a := by simpa using z
      rw [← e] at lo
      simp at lo
  obtain ⟨as, hr, hsm⟩ := rd
  have fin : ∀ (h' : Heap) (tok : Tok) (tk : Tok), (∀ b o, s.heap.get? b = some o → h'.get? b = some o) → EP X pins σ Q (.str p.shown tok) { s with heap := h', toks := tk } := fun h' tok tk k =>
    ⟨.str p.shown, H, I.kept k, ⟨_, rfl⟩, q⟩
  have same : ∀ (tok tk : Tok), EP X pins σ Q (.str p.shown tok) { s with toks := tk } := fun tok tk => ⟨.str p.shown, H, I.tok tk, ⟨_, rfl⟩, q⟩
  cases hr with
  | none => exact PySem.P.repr_of_none (same _ _)
  | bool b => exact PySem.P.repr_of_bool (by have := same s.toks (s.toks + 1); simpa [PyData.shown] using this)
  | int i t => exact PySem.P.repr_of_int (by simpa [PyData.showable] using hs) (by have := same s.toks (s.toks + 1); simpa [PyData.shown] using this)
  | str x t => exact PySem.P.repr_of_str (by have := same s.toks (s.toks + 1); simpa [PyData.shown] using this) (by simpa [PyData.shown] using hsz)
  | list h1 h2 h3 h4 => exact repr_of_reads' (.list h1 h2 h3 h4) hs hsm quiet (by omega) (fun _ _ e => e) (fun h' u tk k => fin h' u tk k) hsz
  | tuple h1 h2 h3 h4 => exact repr_of_reads' (.tuple h1 h2 h3 h4) hs hsm quiet (by omega) (fun _ _ e => e) (fun h' u tk k => fin h' u tk k) hsz
  | dict h1 h2 h3 h4 h5 => exact repr_of_reads' (.dict h1 h2 h3 h4 h5) hs hsm quiet (by omega) (fun _ _ e => e) (fun h' u tk k => fin h' u tk k) hsz
/-- the datum that repr tells -/
def rpD : D → Option PyData
  | .dct ks => (scalK ks).map .dict
  | d => toP d
@[irreducible] def cRepr : WCl := fun ds M R => match ds with
  | [x] => match rpD (viewD M x) with
    | some p => Need (RpOk p) ∧ R (.str p.shown) M
    | none => False
  | _ => False
theorem cRepr_ok {K : PySem.W.Frag} {B : Bs} : CallD K B (rReprK K) cRepr := by
  intro P al M env σ H vs ds R Q rs r h L
  unfold cRepr at h
  split at h
  · rename_i x
    cases r with
    | cons r1 t =>
      cases t
      split at h
      · rename_i p e
        refine ⟨_, p, rfl, ?_, h.1.out, L.here rs (.str _) h.2⟩
        unfold rpD at e
        split at e
        · rename_i ks hv
          obtain ⟨a, xs, rfl, h1, q1⟩ := view_dct rs.toRS0 r1 hv
          cases h2 : scalK ks with
          | none => rw [h2] at e; cases e
          | some ps => rw [h2] at e; cases e; exact .inr ⟨a, xs, ps, rfl, h1, scalK_rep q1 h2, rfl⟩
        · exact .inl (view_dp rs.toRS0 r1 e)
      · exact h.elim
  · exact h.elim
theorem repr_use {M : Mt} {x : D} {R : D → Mt → Prop} {p : PyData} (h : rpD (viewD M x) = some p) (ok : RpOk p) (k : R (.str p.shown) M) : cRepr [x] M R := by
  simp only [cRepr, h]; exact ⟨⟨ok⟩, k⟩
end L3

namespace L3
open PySem PySem.Spec PyProof.Rows L2
/-! ### try with several clauses, each with a name or without -/
abbrev Clause := Value × Option Nat × (Addr → Value → Option Addr → TS)
/-- the ends of a suite whose name is given up behind it -/
def gone (i : Nat) (D : Ends) : Ends := ⟨fun σ H => D.nx (σ.set i none) H, D.rt, fun σ H => D.bk (σ.set i none) H, fun σ H => D.ct (σ.set i none) H⟩
/-- what the clauses ask of an error, the first that fits -/
def wCls (K : PySem.W.Frag) (out : WX) (D : Ends) : List Clause → WX
  | [] => out
  | (c, o, ts) :: r => fun cls d σ H => ∃ b, PySem.W.exmOne K cls c = some b ∧ (b = false → wCls K out D r cls d σ H) ∧
      (b = true → ∀ a, H a = none → match o with
        | some i => ts a cls d (gone i D) (σ.set i (some (.ref a))) H
        | none => ts a cls d D σ H)
inductive ClsOk (X : Cx) : List ExceptHandler → List Clause → Prop
  | nil : ClsOk X [] []
  | named {x n : Str} {c : Value} {i : Nat} {ts : Addr → Value → Option Addr → TS} {b₀ : Stmt} {suite : List Stmt} {np hp : Pos} {hs : List ExceptHandler} {l : List Clause} (names : Names X x c) (slot : X.N[i]? = some n) (kind : X.env.kindOf n = some .local)
      (walk : ∀ (a : Addr) (oe : Obj) (cls : Value) (d : Option Addr) (pn : List (Addr × Obj)), Zc cls d oe → (∃ vs, oe.data = .fields vs) → PSs (X.suite a ((a, oe) :: pn)) (b₀ :: suite) (ts a cls d)) (rest : ClsOk X hs l) :
      ClsOk X (.ExceptHandler (some (.Name x np)) (some n) (b₀ :: suite) hp :: hs) ((c, some i, ts) :: l)
  | bare {x : Str} {c : Value} {ts : Addr → Value → Option Addr → TS} {b₀ : Stmt} {suite : List Stmt} {np hp : Pos} {hs : List ExceptHandler} {l : List Clause} (names : Names X x c)
      (walk : ∀ (a : Addr) (oe : Obj) (cls : Value) (d : Option Addr) (pn : List (Addr × Obj)), Zc cls d oe → (∃ vs, oe.data = .fields vs) → PSs (X.suite a ((a, oe) :: pn)) (b₀ :: suite) (ts a cls d)) (rest : ClsOk X hs l) :
      ClsOk X (.ExceptHandler (some (.Name x np)) none (b₀ :: suite) hp :: hs) ((c, none, ts) :: l)
section
variable {X : Cx} {body : List Stmt} {first : ExceptHandler} {hs : List ExceptHandler} {l : List Clause} {pos : Pos} {tb : WX → TS} {out : WX}
theorem ps_try_cls (top : X.stack = X.env :: X.outer) (frame : X.env.frame = some X.env.locals) (nd : X.N.Nodup) (tk : Takes X out)
    (try_body : ∀ (W : WX) (pn : List (Addr × Obj)) (xe : Value → Shared → Prop), Takes (X.tr pn xe) W → PSs (X.tr pn xe) body (tb W)) (clauses : ClsOk X (first :: hs) l) :
    PS X (.Try body (first :: hs) [] [] pos) (fun D σ H => tb (wCls X.K out D l) D σ H) := by
  constructor
  intro pins s σ H D I asked
  have ok := I.ok
  have frames : X.A.frames = some (X.env :: X.outer) := ok.frames.trans (congrArg some top)
  apply wpAny_Try_except
  have looked := (try_body (wCls X.K out D l) (X.pn ++ pins) (fun e s₁ => wpAny (model X.prog X.w) X.A (noteFrame e X.env) (fun _ s₂ => wpAny (model X.prog X.w) X.A (setFlight e none) (fun _ s₃ =>
    wpAny (model X.prog X.w) X.A (handleBy e X.env (first :: hs)) (SP X pins D) X.xe s₃) X.xe s₂) X.xe s₁) ?_).run [] s σ H D (I.toTry _) asked
  · refine wpAny_mono looked ?_ (fun e s1 he => he)
    intro flow s1 got
    cases flow with
    | next => obtain ⟨σ1, H1, J, q⟩ := got; exact wpAny_execs_nil ⟨σ1, H1, J.ofTry ok, q⟩
    | brk => obtain ⟨σ1, H1, J, q⟩ := got; exact ⟨σ1, H1, J.ofTry ok, q⟩
    | cont => obtain ⟨σ1, H1, J, q⟩ := got; exact ⟨σ1, H1, J.ofTry ok, q⟩
    | ret u => obtain ⟨v, σ1, H1, J, r, q⟩ := got; exact ⟨v, σ1, H1, J.ofTry ok, r, q⟩
  -- an error comes
  intro u s1 raised
  obtain ⟨a, B, sI, pins1, σ1, H1, cls, d, rfl, J0, nb, up, sky, na, os, ag, wish⟩ := raised
  have J : Inv X pins σ1 H1 sI := J0.ofTry ok
  rw [show X.stack = X.env :: X.outer from top] at sky
  show wpAny (model X.prog X.w) X.A (noteFrame (.ref a) X.env) _ _ _
  apply Sky.land Zc.steady frames frame sky
  intro h3 fl3 up3
  have J3 : Inv X pins σ1 H1 { s1 with heap := h3 } := J.landed nb fl3.1 (up.trans up3) os ag
  obtain ⟨oe3, vs3, at3, zc3, data3⟩ := fl3.there
  have out_of_frames : a ∉ frs (X.env :: X.outer) := by
    intro is_in
    obtain ⟨_, o, at_o, no⟩ := fl3.2.2.1.mem is_in
    rw [at3] at at_o
    cases at_o
    exact no _ data3
  have not_locals : a ≠ X.env.locals := by
    intro z
    apply out_of_frames
    exact List.mem_filterMap.mpr ⟨X.env, List.mem_cons_self, by rw [frame, z]⟩
  have not_frame : a ∉ X.fs := by
    intro is_in
    obtain ⟨e, in_outer, q⟩ := List.mem_filterMap.mp is_in
    exact out_of_frames (List.mem_filterMap.mpr ⟨e, List.mem_cons_of_mem _ in_outer, q⟩)
  have S3 := J3.suite at3 data3 na not_locals not_frame
  -- clause by clause
  have clause : ∀ {hs2 : List ExceptHandler} {l2 : List Clause}, ClsOk X hs2 l2 → wCls X.K out D l2 cls d σ1 H1 → wpAny (model X.prog X.w) X.A (handleBy (.ref a) X.env hs2) (SP X pins D) X.xe { s1 with heap := h3 } := by
    intro hs2 l2 c2
    have ask : ∀ {x : Str} {c : Value} {np : Pos} {Q E : Value → Shared → Prop}, Names X x c → Q c { s1 with heap := h3 } → wpAny (model X.prog X.w) (X.A.mark (some (.ref a))) (eval (.Name x np) X.env) Q E { s1 with heap := h3 } := by
      rintro x c np Q E ⟨is_glob, no_debug, is_own | ⟨no_own, is_boot, no_name⟩⟩ q
      · exact ld_glob (X := X.suite a ((a, oe3) :: (X.pn ++ pins))) S3 is_glob is_own q no_debug
      · exact ld_blt (X := X.suite a ((a, oe3) :: (X.pn ++ pins))) S3 is_glob no_own is_boot q no_name no_debug
    have its_class : PySem.W.Looks (model X.prog X.w) h3 (typeOf (.ref a)) cls := fun A Q E s k q => wpAny_typeOf_ref (k _ _ at3) (by rw [zc3.1]; exact q)
    induction c2 with
    | nil =>
      intro w
      apply wpAny_handleBy_nil
      obtain ⟨k1, k2, k3, oe, vs, T, oT, ts2, at2, z2, data2, t1, t2⟩ := id fl3
      unfold PySem.passOn
      apply wpAny_bind
      apply wpAny_field at2 data2 t1
      rw [if_neg (show ¬ ((Value.ref T == Value.none) = true) from by simp)]
      have on : wpAny (model X.prog X.w) X.A (setFlight (.ref a) X.env.frame) (fun _ s4 => wpAny (model X.prog X.w) X.A (throw (.ref a) : Sem Flow) (SP X pins D) X.xe s4) X.xe { s1 with heap := h3 } := by
        rw [frame]
        apply HandSPX.setFlight_upZ fl3
        intro h4 high up4
        apply wpAny_throw
        exact tk _ _ ⟨a, B, sI, pins, σ1, H1, cls, d, rfl, J, nb, (up.trans up3).trans up4, .inr (.inr (by rw [top]; exact high)), na, os, ag, w⟩
      first
        | exact wpAny_bind (wpAny_pure (wpAny_bind on))
        | exact wpAny_bind on
    | @named x n c i ts b₀ suite np hp hs3 l3 names slot kind walk rest ih =>
      rintro ⟨b, fits, no, yes⟩
      apply wpAny_handleBy_cons (codeAny_handlers_test ?_) (by intro q; cases q)
      have looks := PySem.W.exm_one (M := model X.prog X.w) J3.kIn its_class fits
      apply ask names
      apply looks.here
      cases b with
      | false => exact ih (no rfl)
      | true =>
        apply codeAny_handlers_suite_as
        apply HandSPX.lands_againZ fl3
        intro h4 fl4 up4
        have J4 : Inv X pins σ1 H1 { s1 with heap := h4 } := J.landed nb fl4.1 ((up.trans up3).trans up4) os ag
        obtain ⟨oe4, vs4, at4, zc4, data4⟩ := fl4.there
        have S4 := J4.suite at4 data4 na not_locals not_frame
        have where_ : Loc X.env.scope n := Or.inl kind
        refine store_ok (X := X.suite a ((a, oe4) :: (X.pn ++ pins))) (v := .ref a) S4 nd slot where_ rfl ?_ (Or.inr kind)
        intro s5 S5
        refine wpAny_mono ((walk a oe4 cls d (X.pn ++ pins) zc4 ⟨_, data4⟩).run [] s5 _ H1 _ S5 (yes rfl a na)) ?_ (fun _ _ z => False.elim z)
        intro flow s6 got
        have behind : ∀ {σ6 : L2.St} {H6 : Hp} {Q : Shared → Prop}, Inv (X.suite a ((a, oe4) :: (X.pn ++ pins))) [] σ6 H6 s6 → (∀ s7, Inv X pins (σ6.set i none) H6 s7 → Q s7) →
            wpAny (model X.prog X.w) X.A (do bindName X.env n .none; unbindBehindTheSuite X.env n hp) (fun _ s7 => Q s7) X.xe s6 := by
          intro σ6 H6 Q S6 q
          exact gone_ok (S6.unsuite ok) nd slot kind q
        cases flow with
        | next => obtain ⟨σ6, H6, S6, q6⟩ := got; exact behind S6 fun s7 J7 => ⟨_, _, J7, q6⟩
        | brk => obtain ⟨σ6, H6, S6, q6⟩ := got; exact behind S6 fun s7 J7 => ⟨_, _, J7, q6⟩
        | cont => obtain ⟨σ6, H6, S6, q6⟩ := got; exact behind S6 fun s7 J7 => ⟨_, _, J7, q6⟩
        | ret u => obtain ⟨v6, σ6, H6, S6, r6, q6⟩ := got; exact behind S6 fun s7 J7 => ⟨_, _, _, J7, r6, q6⟩
    | @bare x c ts b₀ suite np hp hs3 l3 names walk rest ih =>
      rintro ⟨b, fits, no, yes⟩
      apply wpAny_handleBy_cons (codeAny_handlers_test ?_) (by intro q; cases q)
      have looks := PySem.W.exm_one (M := model X.prog X.w) J3.kIn its_class fits
      apply ask names
      apply looks.here
      cases b with
      | false => exact ih (no rfl)
      | true =>
        apply codeAny_handlers_suite
        apply HandSPX.lands_againZ fl3
        intro h4 fl4 up4
        have J4 : Inv X pins σ1 H1 { s1 with heap := h4 } := J.landed nb fl4.1 ((up.trans up3).trans up4) os ag
        obtain ⟨oe4, vs4, at4, zc4, data4⟩ := fl4.there
        have S4 := J4.suite at4 data4 na not_locals not_frame
        refine wpAny_mono ((walk a oe4 cls d (X.pn ++ pins) zc4 ⟨_, data4⟩).run [] _ _ H1 _ S4 (yes rfl a na)) ?_ (fun _ _ z => False.elim z)
        intro flow s6 got
        cases flow with
        | next => obtain ⟨σ6, H6, S6, q6⟩ := got; exact ⟨_, _, S6.unsuite ok, q6⟩
        | brk => obtain ⟨σ6, H6, S6, q6⟩ := got; exact ⟨_, _, S6.unsuite ok, q6⟩
        | cont => obtain ⟨σ6, H6, S6, q6⟩ := got; exact ⟨_, _, S6.unsuite ok, q6⟩
        | ret u => obtain ⟨v6, σ6, H6, S6, r6, q6⟩ := got; exact ⟨_, _, _, S6.unsuite ok, r6, q6⟩
  exact clause clauses wish
end
end L3

namespace L3
open PySem PySem.Spec PyProof.Rows L2
/-! ### the same over data -/
abbrev DCl := (Str → Bool) × Option Nat × (Addr → Str → List (Str × D) → WS)
def pickC (k : DEnds) (RX : RXe) : List DCl → RXe
  | [] => RX
  | (sub, o, ws) :: r => fun n fs env M => ifB (sub n) (∀ a : Addr, match o with
      | some i => ws a n fs (outE i k) (env.set i (some (.adr a))) M
      | none => ws a n fs k env M) (pickC k RX r n fs env M)
def wTryCls (ok : List Str) (cl : List DCl) (wb : RXe → WS) (RX : RXe) : WS := fun k env M => wb (fun n fs env' M' => Need (n ∈ ok) ∧ pickC k RX cl n fs env' M') k env M
inductive ClsD (X : Cx) (ok : List Str) : List ExceptHandler → List DCl → Prop
  | nil : ClsD X ok [] []
  | named {x n : Str} {Cc : Addr} {i : Nat} {sub : Str → Bool} {ws : Addr → Str → List (Str × D) → WS} {b₀ : Stmt} {suite : List Stmt} {np hp : Pos} {hs : List ExceptHandler} {cl : List DCl} (names : Names X x (.ref Cc)) (slot : X.N[i]? = some n) (kind : X.env.kindOf n = some .local)
      (hsub : ∀ n C, n ∈ ok → ClsAt X.K n C → PySem.W.exmOne X.K (.ref C) (.ref Cc) = some (sub n))
      (walk : ∀ (B' : Bs) (a C : Addr) (oe : Obj) (n : Str) (fs : List (Str × D)) (d : Option Addr) (pn : List (Addr × Obj)), Zc (.ref C) d oe → (∃ vs, oe.data = .fields vs) → ClsAt X.K n C → n ∈ ok → sub n = true → XdOk X.K B'.1 B'.2.1 B'.2.2 fs d → DSs B' (X.suite a ((a, oe) :: pn)) (b₀ :: suite) (ws a n fs)) (rest : ClsD X ok hs cl) :
      ClsD X ok (.ExceptHandler (some (.Name x np)) (some n) (b₀ :: suite) hp :: hs) ((sub, some i, ws) :: cl)
  | bare {x : Str} {Cc : Addr} {sub : Str → Bool} {ws : Addr → Str → List (Str × D) → WS} {b₀ : Stmt} {suite : List Stmt} {np hp : Pos} {hs : List ExceptHandler} {cl : List DCl} (names : Names X x (.ref Cc))
      (hsub : ∀ n C, n ∈ ok → ClsAt X.K n C → PySem.W.exmOne X.K (.ref C) (.ref Cc) = some (sub n))
      (walk : ∀ (B' : Bs) (a C : Addr) (oe : Obj) (n : Str) (fs : List (Str × D)) (d : Option Addr) (pn : List (Addr × Obj)), Zc (.ref C) d oe → (∃ vs, oe.data = .fields vs) → ClsAt X.K n C → n ∈ ok → sub n = true → XdOk X.K B'.1 B'.2.1 B'.2.2 fs d → DSs B' (X.suite a ((a, oe) :: pn)) (b₀ :: suite) (ws a n fs)) (rest : ClsD X ok hs cl) :
      ClsD X ok (.ExceptHandler (some (.Name x np)) none (b₀ :: suite) hp :: hs) ((sub, none, ws) :: cl)
/-- a suite's wish, the error's data put in -/
def tsOf (K : PySem.W.Frag) (ok : List Str) (sub : Str → Bool) (ws : Addr → Str → List (Str × D) → WS) : Addr → Value → Option Addr → TS := fun a cls d D σ H =>
  ∃ B' C n fs, cls = .ref C ∧ ClsAt K n C ∧ n ∈ ok ∧ sub n = true ∧ XdOk K B'.1 B'.2.1 B'.2.2 fs d ∧ tDS K B' (ws a n fs) D σ H
theorem ClsD.go {X : Cx} {ok : List Str} {hs : List ExceptHandler} {cl : List DCl} (c : ClsD X ok hs cl) : ∃ l : List Clause, ClsOk X hs l ∧
    ∀ {B : Bs} {P P' : Hp} {al al' : List Addr} {H H' : Hp} {k : DEnds} {D : Ends} {RX : RXe} {C : Addr} {nm : Str} {fs : List (Str × L3.D)} {env' : Ev} {M' : Mt} {σ' : L2.St} {d : Option Addr}, DLift X.K B P al H k D → Ext B.1 B.2.1 B.2.2 P al H → ClsAt X.K nm C → nm ∈ ok →
      RS X.K (P, al, H) P' al' M' env' σ' H' → XdOk X.K P' al' H' fs d → pickC k RX cl nm fs env' M' → wCls X.K (WL X.K B RX) D l (.ref C) d σ' H' := by
  induction c with
  | nil =>
    refine ⟨[], .nil, ?_⟩
    intro B P P' al al' H H' k D RX C nm fs env' M' σ' d L base ca ho rs xd q
    exact ⟨C, nm, fs, env', P', al', M', rfl, ca, ⟨rs.toRS0.rebase (base.trans rs.base), rs.slen, rs.slot⟩, xd, q⟩
  | @named x n Cc i sub ws b₀ suite np hp hs cl names slot kind hsub walk rest ih =>
    obtain ⟨l, h1, h2⟩ := ih
    refine ⟨(.ref Cc, some i, tsOf X.K ok sub ws) :: l, .named names slot kind (fun a oe cls d pn hz hd => ⟨?_⟩) h1, ?_⟩
    · rintro pins s σ H D I ⟨B', C, n, fs, ec, ca, ho, hb, xd, h⟩
      subst ec
      exact (walk B' a C oe n fs d pn hz hd ca ho hb xd).run pins s σ H D I h
    · intro B P P' al al' H H' k D RX C nm fs env' M' σ' d L base ca ho rs xd q
      refine ⟨sub nm, hsub nm C ho ca, fun hb => h2 L base ca ho rs xd (q.2 hb), fun hb a na => ?_⟩
      have e0 : Ext P al H P' al' H' := rs.base
      have rs2 : RS X.K (P', al', H') P' al' M' env' σ' H' := ⟨rs.toRS0.here, rs.slen, rs.slot⟩
      refine ⟨(P', al', H'), C, nm, fs, rfl, ca, ho, hb, xd, P', al', M', _, outE i k, rs2.put i (.adr a), q.1 hb a, ⟨fun env2 M2 σ2 H2 P2 al2 e rs3 q3 => ?_, fun d M2 v H2 P2 al2 e rs3 r q3 => ?_, fun env2 M2 σ2 H2 P2 al2 e rs3 q3 => ?_, fun env2 M2 σ2 H2 P2 al2 e rs3 q3 => ?_⟩⟩
      · have rs4 := rs3.drp i
        exact L.nx _ _ _ _ _ _ (e0.trans e) ⟨rs4.toRS0.rebase (base.trans (e0.trans e)), rs4.slen, rs4.slot⟩ q3
      · exact L.rt _ _ _ _ _ _ (e0.trans e) (rs3.rebase (base.trans (e0.trans e))) r q3
      · have rs4 := rs3.drp i
        exact L.bk _ _ _ _ _ _ (e0.trans e) ⟨rs4.toRS0.rebase (base.trans (e0.trans e)), rs4.slen, rs4.slot⟩ q3
      · have rs4 := rs3.drp i
        exact L.ct _ _ _ _ _ _ (e0.trans e) ⟨rs4.toRS0.rebase (base.trans (e0.trans e)), rs4.slen, rs4.slot⟩ q3
  | @bare x Cc sub ws b₀ suite np hp hs cl names hsub walk rest ih =>
    obtain ⟨l, h1, h2⟩ := ih
    refine ⟨(.ref Cc, none, tsOf X.K ok sub ws) :: l, .bare names (fun a oe cls d pn hz hd => ⟨?_⟩) h1, ?_⟩
    · rintro pins s σ H D I ⟨B', C, n, fs, ec, ca, ho, hb, xd, h⟩
      subst ec
      exact (walk B' a C oe n fs d pn hz hd ca ho hb xd).run pins s σ H D I h
    · intro B P P' al al' H H' k D RX C nm fs env' M' σ' d L base ca ho rs xd q
      refine ⟨sub nm, hsub nm C ho ca, fun hb => h2 L base ca ho rs xd (q.2 hb), fun hb a na => ?_⟩
      have e0 : Ext P al H P' al' H' := rs.base
      have rs2 : RS X.K (P', al', H') P' al' M' env' σ' H' := ⟨rs.toRS0.here, rs.slen, rs.slot⟩
      refine ⟨(P', al', H'), C, nm, fs, rfl, ca, ho, hb, xd, P', al', M', _, k, rs2, q.1 hb a, ⟨fun env2 M2 σ2 H2 P2 al2 e rs3 q3 => ?_, fun d M2 v H2 P2 al2 e rs3 r q3 => ?_, fun env2 M2 σ2 H2 P2 al2 e rs3 q3 => ?_, fun env2 M2 σ2 H2 P2 al2 e rs3 q3 => ?_⟩⟩
      · exact L.nx _ _ _ _ _ _ (e0.trans e) ⟨rs3.toRS0.rebase (base.trans (e0.trans e)), rs3.slen, rs3.slot⟩ q3
      · exact L.rt _ _ _ _ _ _ (e0.trans e) (rs3.rebase (base.trans (e0.trans e))) r q3
      · exact L.bk _ _ _ _ _ _ (e0.trans e) ⟨rs3.toRS0.rebase (base.trans (e0.trans e)), rs3.slen, rs3.slot⟩ q3
      · exact L.ct _ _ _ _ _ _ (e0.trans e) ⟨rs3.toRS0.rebase (base.trans (e0.trans e)), rs3.slen, rs3.slot⟩ q3
theorem d_tryCls {X : Cx} {B : Bs} {body : List Stmt} {first : ExceptHandler} {hs : List ExceptHandler} {pos : Pos} {RX : RXe} {ok : List Str} {cl : List DCl} {wb : RXe → WS} (top : X.stack = X.env :: X.outer) (frame : X.env.frame = some X.env.locals) (nd : X.N.Nodup) (tk : Takes X (WL X.K B RX))
    (hb : ∀ (B' : Bs) (RX' : RXe) (pn : List (Addr × Obj)) (xe : Value → Shared → Prop), Takes (X.tr pn xe) (WL X.K B' RX') → DSs B' (X.tr pn xe) body (wb RX')) (clauses : ClsD X ok (first :: hs) cl) :
    DS B X (.Try body (first :: hs) [] [] pos) (wTryCls ok cl wb RX) := by
  obtain ⟨l, h1, h2⟩ := clauses.go
  refine (ps_try_cls (out := WL X.K B RX) (tb := fun W D σ H => ∃ B' RX', (∀ c d σ H, WL X.K B' RX' c d σ H → W c d σ H) ∧ tDS X.K B' (wb RX') D σ H) top frame nd tk (fun W pn xe tkW => ⟨fun pins s σ H D I ⟨B', RX', imp, h⟩ => (hb B' RX' pn xe (tkW.imp imp)).run pins s σ H D I h⟩) h1).imp fun D σ H => ?_
  rintro ⟨P, al, M, env, k, rs, hw, L⟩
  refine ⟨(P, al, H), _, fun c d σ' H' q => ?_, P, al, M, env, k, ⟨rs.toRS0.here, rs.slen, rs.slot⟩, hw, ⟨fun env' M' σ' H' P' al' e rs' q => L.nx _ _ _ _ _ _ e ⟨rs'.toRS0.rebase (rs.base.trans e), rs'.slen, rs'.slot⟩ q, fun d M' v H' P' al' e rs' r q => L.rt _ _ _ _ _ _ e (rs'.rebase (rs.base.trans e)) r q,
    fun env' M' σ' H' P' al' e rs' q => L.bk _ _ _ _ _ _ e ⟨rs'.toRS0.rebase (rs.base.trans e), rs'.slen, rs'.slot⟩ q, fun env' M' σ' H' P' al' e rs' q => L.ct _ _ _ _ _ _ e ⟨rs'.toRS0.rebase (rs.base.trans e), rs'.slen, rs'.slot⟩ q⟩⟩
  obtain ⟨C, nm, fs, env', P', al', M', rfl, ca, rs', xd, ho, q⟩ := q
  exact h2 L rs.base ca ho.out rs' xd q
end L3

namespace L3
open PySem PySem.Spec PyProof.Rows L2
/-! ### in, of a dict or of a row -/
def rInDK (neg : Bool) : R2 := fun x y H Q => ∃ a o, y = .ref a ∧ DGet H a x o ∧ Q (.bl (if neg then !o.isSome else o.isSome)) H
theorem opInDK {X : Cx} (hu : X.A.units + 1 < cLine) : OpR X (compareOp .In) (rInDK false) := by
  rintro pins s σ H x y v u Q I rx ry ⟨a, o, rfl, g, q⟩
  cases ry
  exact d_in hu I g rx fun s3 I3 => ⟨.bl o.isSome, H, I3, rfl, q⟩
def oInU (neg : Bool) : WO2 := fun x y M R => match viewD M y with
  | .dct _ => oDIn neg x y M R
  | _ => oIn neg x y M R
theorem oInU_ok {K : PySem.W.Frag} {B : Bs} : OpD K B (fun x y H Q => rInU K false x y H Q ∨ rInDK false x y H Q) (oInU false) := by
  intro P al M env σ H x y dx dy R Q rs r1 r2 h L
  unfold oInU at h
  split at h
  · rename_i ks hv
    unfold oDIn at h
    split at h
    · rename_i ks2 k h1 h2
      obtain ⟨a, xs, rfl, g1, g2⟩ := view_dct rs.toRS0 r2 h1
      refine .inr ⟨a, _, rfl, .inl ⟨xs, k, .inl g1, key_rep r1 h2, rfl⟩, ?_⟩
      show Q (.bl (valV xs k).isSome) H
      rw [some_iff g2 k]
      exact L.here rs (.bl _) h
    · rename_i h1 _
      rw [hv] at h1; cases h1
    · exact h.elim
  · exact .inl (oIn_ok P al M env σ H x y dx dy R Q rs r1 r2 h L)
theorem inU_dct {M : Mt} {x y : D} {R : D → Mt → Prop} {ks : List (Key × D)} {k : Key} (h : viewD M y = .dct ks) (hk : keyD x = some k) (q : R (.bl (valD ks k).isSome) M) : oInU false x y M R := by
  simp only [oInU, oDIn, h, hk]; exact q
theorem inU_seq {M : Mt} {x y : D} {R : D → Mt → Prop} (h : ∀ ks, viewD M y ≠ .dct ks) (q : oIn false x y M R) : oInU false x y M R := by
  unfold oInU
  split
  · rename_i ks e; exact absurd e (h ks)
  · exact q
/-! ### constants of a class -/
def wCVal (n : Str) (v : D) (w : WE) : WE := fun env M R => w env M fun d M1 => match d with
  | .cls m => Need (m = n) ∧ R v M1
  | _ => False
theorem d_cvalI {X : Cx} {B : Bs} {n f : Str} {i : Int} {t : Tok} {C : Addr} {mc : Value} {e : Expr} {pos : Pos} {w : WE} (ca : ClsAt X.K n C) (r : ClX.CRead X.K C mc) (c : PySem.W.findCls X.K (.ref C) mc f = some (.val (.int i t))) (he : DE B X e w) (hb : attributeBase e f X.env (eval e X.env) = eval e X.env := by rfl) :
    DE B X (.Attribute e f pos) (wCVal n (.int i) w) := by
  refine (ClX.pe_cval he hb).imp fun σ H Q => ?_
  rintro ⟨P, al, M, env, R, rs, hw, L⟩
  refine ⟨P, al, M, env, _, rs, hw, fun d M1 v H1 P1 al1 e1 rs1 r1 q => ?_⟩
  split at q
  · obtain ⟨⟨rfl⟩, q⟩ := q
    cases r1 with
    | cls c2 =>
      obtain rfl := ca.one c2
      exact ⟨C, mc, .int i, _, rfl, r, ⟨c, ⟨t, rfl⟩⟩, (L.after e1).here rs1 (.int i) q⟩
  · exact q.elim
/-! ### tables of classes -/
inductive TabOk (K : PySem.W.Frag) (C : Addr) : List (Str × Bool) → Prop
  | nil : TabOk K C []
  | cons {c : Str} {r : Bool} {Cc : Addr} {tb : List (Str × Bool)} : ClsAt K c Cc → PySem.W.kitOne K (.ref C) (.ref Cc) = some r → TabOk K C tb → TabOk K C ((c, r) :: tb)
theorem TabOk.look {K : PySem.W.Frag} {C : Addr} {tb : List (Str × Bool)} (t : TabOk K C tb) : ∀ c r Cc, tb.lookup c = some r → ClsAt K c Cc → PySem.W.kitOne K (.ref C) (.ref Cc) = some r := by
  induction t with
  | nil => intro c r Cc h; cases h
  | @cons c' r' Cc' tb ca k t ih =>
    intro c r Cc h hc
    rw [List.lookup_cons] at h
    split at h
    · rename_i e
      obtain rfl : c = c' := by simpa using e
      cases h
      obtain rfl := ca.one hc
      exact k
    · exact ih c r Cc h hc
/-- which of the classes ok are caught by 'except n0' -/
inductive ExTab (K : PySem.W.Frag) (Cc : Addr) (n0 : Str) : List Str → Prop
  | nil : ExTab K Cc n0 []
  | cons {m : Str} {C : Addr} {ok : List Str} : ClsAt K m C → PySem.W.exmOne K (.ref C) (.ref Cc) = some (decide (m = n0)) → ExTab K Cc n0 ok → ExTab K Cc n0 (m :: ok)
theorem ExTab.look {K : PySem.W.Frag} {Cc : Addr} {n0 : Str} {ok : List Str} (t : ExTab K Cc n0 ok) : ∀ n C, n ∈ ok → ClsAt K n C → PySem.W.exmOne K (.ref C) (.ref Cc) = some (decide (n = n0)) := by
  induction t with
  | nil => intro n C h; cases h
  | @cons m Cm ok ca e t ih =>
    intro n C h hc
    rcases List.mem_cons.mp h with rfl | h
    · obtain rfl := ca.one hc
      exact e
    · exact ih n C h hc
theorem ex_yes {o : Option Bool} {a b : Str} (h : o = some true) (e : a = b) : o = some (decide (a = b)) := by rw [h, decide_eq_true e]
theorem ex_no {o : Option Bool} {a b : Str} (h : o = some false) (e : ¬ a = b) : o = some (decide (a = b)) := by rw [h, decide_eq_false e]
/-- two texts beside one another -/
theorem ne_pair {M : Mt} {x y : D} {f : Bool → Bool} {R : D → Mt → Prop} {a b a' b' : Str} (hx : viewD M x = .tup [.str a, .str b]) (hy : viewD M y = .tup [.str a', .str b']) (h1 : PyData.strOk a = true) (h2 : PyData.strOk b = true) (h3 : PyData.strOk a' = true) (h4 : PyData.strOk b' = true)
    (k : R (.bl (f (decide (a = a') && decide (b = b')))) M) : oEqB f x y M R := by
  have e1 : ∀ a b, toP (.tup [.str a, .str b]) = some (.tuple [.str a, .str b]) := fun _ _ => rfl
  have e2 : ∀ a b, PyData.strOk a = true → PyData.strOk b = true → SeqAt.shaped (.tuple [.str a, .str b]) = true := fun a b h h' => by
    simp [SeqAt.shaped, PyData.canLay0, PyData.canLayAll0, PyData.depth, PyData.depthAll, h, h']
  simp only [oEqB, hx, hy, e1]
  refine ⟨⟨e2 _ _ h1 h2⟩, ⟨e2 _ _ h3 h4⟩, ?_⟩
  have e3 : PyData.eqv (.tuple [.str a, .str b]) (.tuple [.str a', .str b']) = (decide (a = a') && decide (b = b')) := by
    simp only [PyData.eqv, PyData.eqvAll, Bool.and_true]
    by_cases u : a = a' <;> by_cases v : b = b' <;> simp [u, v]
  rw [e3]; exact k
end L3

namespace L3
open PySem PySem.Spec PyProof.Rows L2
/-! ### comprehensions over a list that changes elsewhere -/
section
variable {K : PySem.W.Frag} {B : Bs}
def WalkC (K : PySem.W.Frag) (J : It) (n : Nat) (ds : List D) (P : Hp) (al : List Addr) : Prop :=
  ∀ (B : Bs) (P2 : Hp) (al2 : List Addr) (M2 : Mt) (H2 : Hp), Same P P2 → al <+: al2 → RS0 K B P2 al2 M2 H2 → M2[n]? = some (.lst ds) →
    (∀ (i : Nat) (d : D), ds[i]? = some d → J.go i H2 ∧ ∀ x H3, J.yld i H2 x H3 → ∃ P3, Ext P2 al2 H2 P3 al2 H3 ∧ RS0 K B P3 al2 M2 H3 ∧ Rep K P3 al2 d x) ∧ J.stop ds.length H2
theorem walk_cell {a : Addr} {ds : List D} {P : Hp} {al : List Addr} {n : Nat} (h : al[n]? = some a) : WalkC K (Itl K a) n ds P al := by
  intro B P2 al2 M2 H2 s p r0 hm
  obtain ⟨a', e, _, _, xs, h2, r2⟩ := cell_at r0 hm (.cel (pre_get p h))
  cases e
  refine ⟨fun i d hd => ?_, ⟨xs, SqL.of h2, by rw [r2.length]; exact Nat.le_refl _⟩⟩
  obtain ⟨v, hv, rv⟩ := r2.get hd
  refine ⟨⟨xs, v, SqL.of h2, hv⟩, fun x H3 ⟨e, f⟩ => ⟨P2, ?_⟩⟩
  subst e
  have := f _ (SqL.of h2)
  rw [hv] at this; cases this
  exact ⟨Ext.refl, r0, rv⟩
def lcC (n : Nat) (ds0 : List D) (is : List Nat) (t : WTs) (we : WE) (vs : List Nat) (env : Ev) : List D → List D → Mt → (List D → Mt → Prop) → Prop
  | [], acc, M, R => Need (M[n]? = some (.lst ds0)) ∧ R acc M
  | d :: r, acc, M, R => Need (M[n]? = some (.lst ds0)) ∧ bnd is d (wipeE env vs) fun env1 => t env1 M fun b M2 =>
      ifB b (we env1 M2 fun y M3 => Need (acc.length < sizeLine) ∧ lcC n ds0 is t we vs env r (acc ++ [y]) M3 R) (lcC n ds0 is t we vs env r acc M2 R)
theorem lc_impC {g : TG} {is vs : List Nat} {t : WTs} {we wo : WE} (bn : Binds1 K g is vs) {P : Hp} {al : List Addr} {M : Mt} {env : Ev} {σ : L2.St} {H : Hp} {R : D → Mt → Prop} {Q : VK}
    (rs : RS K B P al M env σ H) (hw : wo env M fun d M1 => match d with
      | .cel n => match M1[n]? with
        | some (.lst ds) => lcC n ds is t we vs env ds [] M1 fun acc M2 => R (.lst acc) M2
        | _ => False
      | _ => False) (L : Lift K B P al env σ H R Q) : tLc (fun σ H R => tD K B wo σ H fun x H1 => rIt K x H1 R) g (tDT K B t) (tD K B we) vs σ H Q := by
  refine ⟨P, al, M, env, _, rs, hw, fun d M1 v H1 P1 al1 e1 rs1 rd q => ?_⟩
  split at q
  · rename_i n
    split at q
    · rename_i ds hm
      obtain ⟨a, rfl, ha, _, xs0, hx, rx0⟩ := cell_at rs1.toRS0 hm rd
      refine .inl ⟨a, rfl, ⟨xs0, SqL.of hx⟩, fun p hp => ?_⟩
      have wk : WalkC K (Itl K a) n ds P1 al1 := walk_cell ha
      obtain ⟨hb, na⟩ := rs1.toRS0.fresh hp
      have np := rs1.toRS0.free hp
      refine ⟨fun i m H2 => m = ds.length - i ∧ i ≤ ds.length ∧ ∃ P2 al2 M2 acc av, Ext P1 al1 H1 P2 al2 H2 ∧ RS K B P2 al2 M2 env σ H2 ∧ P2 p = none ∧ p ∉ al2 ∧ H2 p = some (.lst av) ∧ Reps K P2 al2 acc av ∧ lcC n ds is t we vs env (ds.drop i) acc M2 (fun acc M2 => R (.lst acc) M2),
        ⟨ds.length, by simp, Nat.zero_le _, P1, al1, M1, [], [], Ext.refl.priv hp _, ⟨rs1.toRS0.priv np na hb _, rs1.slen, rs1.slot⟩, np, na, upd_same, .nil, q⟩, ?_⟩
      rintro i m H2 ⟨rfl, hi, P2, al2, M2, acc, av, e2, rs2, np2, na2, hpv, racc, q2⟩
      by_cases hlt : i < ds.length
      · right
        have hd : ds[i]? = some ds[i] := List.getElem?_eq_getElem hlt
        rw [List.drop_eq_getElem_cons hlt] at q2
        obtain ⟨⟨hm2⟩, q2⟩ := q2
        obtain ⟨wk1, wk2⟩ := wk B P2 al2 M2 H2 e2.pp e2.pre rs2.toRS0 hm2
        obtain ⟨go, yl⟩ := wk1 i _ hd
        refine ⟨go, fun H' => ∃ P' al' M' acc' av', Ext P1 al1 H1 P' al' H' ∧ RS K B P' al' M' env σ H' ∧ P' p = none ∧ p ∉ al' ∧ H' p = some (.lst av') ∧ Reps K P' al' acc' av' ∧ lcC n ds is t we vs env (ds.drop (i + 1)) acc' M' (fun acc M2 => R (.lst acc) M2), fun H' ⟨P', al', M', acc', av', x⟩ => ⟨ds.length - (i + 1), by omega, rfl, hlt, P', al', M', acc', av', x⟩, fun x H3 y => ?_⟩
        obtain ⟨P3, e3, r3, rx⟩ := yl x H3 y
        have rs3 := (rs2.step e3 r3)
        have keep : ∀ {Pa ala Ha Pb alb Hb w'}, Ext Pa ala Ha Pb alb Hb → Ha p = some (.lst w') → p ∉ ala → Pa p = none → Hb p = some (.lst w') ∧ p ∉ alb ∧ Pb p = none := fun {Pa ala Ha Pb alb Hb w'} e h n z =>
          ⟨e.fr _ _ h n, (fun m => by have := e.new _ m n; rw [h] at this; cases this), e.pn _ _ h ⟨fun _ u => (by cases u), fun _ u => (by cases u)⟩ z n⟩
        obtain ⟨hp3, na3, np3⟩ := keep e3 hpv na2 np2
        refine bn B P3 al2 M2 _ _ H3 _ x _ _ (rs3.wipe vs) rx q2 fun env4 σ4 rs4 hwp q4 => ⟨by rw [hwp, wipe_wipe], P3, al2, M2, env4, _, rs4, q4, fun b M5 H5 P5 al5 e5 rs5 q5 => ?_⟩
        obtain ⟨hp5, na5, np5⟩ := keep e5 hp3 na3 np3
        have e15 := e2.trans (e3.trans e5)
        have back : ∀ {P' al' M' H'}, Ext P3 al2 H3 P' al' H' → RS0 K B P' al' M' H' → RS K B P' al' M' env σ H' := fun {P' al' M' H'} e r => rs3.step e r
        cases b with
        | true =>
          rw [if_pos rfl]
          refine ⟨P5, al5, M5, env4, _, rs5, q5.1 rfl, fun y M6 v H6 P6 al6 e6 rs6 r6 q6 => ?_⟩
          obtain ⟨hp6, na6, np6⟩ := keep e6 hp5 na5 np5
          have racc6 := racc.mono (e3.trans (e5.trans e6)).pp (e3.trans (e5.trans e6)).pre
          refine ⟨av, hp6, by rw [← racc.length]; exact q6.1.out, P6, al6, M6, acc ++ [y], av ++ [v], (e15.trans e6).priv hp _, ?_, np6, na6, upd_same, racc6.append (.cons r6 .nil), q6.2⟩
          have r7 := back (e5.trans e6) rs6.toRS0
          exact ⟨r7.toRS0.priv np6 na6 hb _, r7.slen, r7.slot⟩
        | false =>
          rw [if_neg Bool.false_ne_true]
          exact ⟨P5, al5, M5, acc, av, e15, back e5 rs5.toRS0, np5, na5, hp5, racc.mono (e3.trans e5).pp (e3.trans e5).pre, q5.2 rfl⟩
      · left
        have ei : i = ds.length := by omega
        subst ei
        rw [List.drop_length] at q2
        obtain ⟨⟨hm2⟩, q2⟩ := q2
        refine ⟨(wk B P2 al2 M2 H2 e2.pp e2.pre rs2.toRS0 hm2).2, ?_⟩
        have sm : Same P2 (upd P2 p (.lst av)) := fun b x h => by rw [upd_ne (ne_of_none h np2)]; exact h
        refine L _ _ _ _ _ _ (e1.trans (e2.pub hp np2 (.lst av))) ⟨rs2.toRS0.pub np2 na2 hb hpv, rs2.slen, fun j d h => ?_⟩ (.lst upd_same (racc.mono sm (List.prefix_refl _))) q2
        obtain ⟨v, h1, h2⟩ := rs2.slot j d h
        exact ⟨v, h1, h2.mono sm (List.prefix_refl _)⟩
    · exact q.elim
  · exact q.elim
end
section
variable {X : Cx} {B : Bs} {e : Expr} {tg elt : Expr} {ifs : List Expr} {scope : Scope} {own : List (Str × Nat)} {g : TG} {is : List Nat} {wo : WE} {t : WTs} {we : WE} {pos spos py : Pos} {i : Nat} {y : Str}
def wLcC (wo : WE) (is : List Nat) (t : WTs) (we : WE) (vs : List Nat) : WE := fun env M R => wo env M fun d M1 => match d with
  | .cel n => match M1[n]? with
    | some (.lst ds) => lcC n ds is t we vs env ds [] M1 fun acc M2 => R (.lst acc) M2
    | _ => False
  | _ => False
theorem d_lcC (hc : X.calm = true) (hN : X.N.Nodup) (hi : DE B X e wo) (ok : BlkOk X.N X.env.scope scope own)
    (hg : ∀ (s : Shared) (H : Hp) (C : Addr) (cl : List (Str × Addr)) (fp : List Addr), PG (X.blk s H scope (compEnvC scope cl C X.env) fp) tg g) (bn : Binds1 X.K g is (own.map (·.2)))
    (ht : ∀ (s : Shared) (H : Hp) (C : Addr) (cl : List (Str × Addr)) (fp : List Addr), DTs B (X.blk s H scope (compEnvC scope cl C X.env) fp) ifs t)
    (he : ∀ (s : Shared) (H : Hp) (C : Addr) (cl : List (Str × Addr)) (fp : List Addr), DE B (X.blk s H scope (compEnvC scope cl C X.env) fp) elt we) (hs : ∀ x, foldedSetIterable e X.env x = pure x := by intro _; rfl) :
    DE B X (.ListComp elt [⟨tg, e, ifs, 0⟩] scope pos) (wLcC wo is t we (own.map (·.2))) := by
  refine (pe_lc (tt := tDT X.K B t) (te := tD X.K B we) hc hN (pi_any hi) ok hg ht he hs).imp fun σ H Q => ?_
  rintro ⟨P, al, M, env, R, rs, hw, L⟩
  exact lc_impC bn rs hw L
theorem d_setLcC (hc : X.calm = true) (hN : X.N.Nodup) (hy : X.N[i]? = some y) (hyl : X.env.scope.names.lookup y = some .local)
    (hsw : swapsWith (.ListComp elt [⟨tg, e, ifs, 0⟩] scope pos) (some (.Name y py)) spos.line X.env = pure true) (hi : DE B X e wo) (ok : BlkOk X.N X.env.scope scope own)
    (hg : ∀ (s : Shared) (H : Hp) (C : Addr) (cl : List (Str × Addr)) (fp : List Addr), PG (X.blk s H scope (compEnvC scope cl C X.env) fp) tg g) (bn : Binds1 X.K g is (own.map (·.2)))
    (ht : ∀ (s : Shared) (H : Hp) (C : Addr) (cl : List (Str × Addr)) (fp : List Addr), DTs B (X.blk s H scope (compEnvC scope cl C X.env) fp) ifs t)
    (he : ∀ (s : Shared) (H : Hp) (C : Addr) (cl : List (Str × Addr)) (fp : List Addr), DE B (X.blk s H scope (compEnvC scope cl C X.env) fp) elt we) (hs : ∀ x, foldedSetIterable e X.env x = pure x := by intro _; rfl) :
    DS B X (.Assign [.Name y py] (.ListComp elt [⟨tg, e, ifs, 0⟩] scope pos) spos) (wSetLc i (wLcC wo is t we (own.map (·.2)))) := by
  refine (ps_setLc (i := i) (tt := tDT X.K B t) (te := tD X.K B we) hc hN hy hyl hsw (pi_any hi) ok hg ht he hs).imp fun D σ H => ?_
  rintro ⟨P, al, M, env, k, rs, hw, L⟩
  exact lc_impC (R := fun d M1 => k.nx (env.set i (some d)) M1) bn rs hw fun d M1 v H1 P1 al1 e1 rs1 r1 q => L.nx _ _ _ _ _ _ e1 (rs1.put i r1) q
/-- where element and test are functions of the item -/
theorem lcC_fun {is vs : List Nat} {t : WTs} {we : WE} {env : Ev} {M : Mt} {n : Nat} {ds0 : List D} (hm : M[n]? = some (.lst ds0)) (p : D → Bool) (f : D → D) : ∀ (ds acc : List D) (R : List D → Mt → Prop), acc.length + ds.length ≤ sizeLine →
    (∀ d ∈ ds, ∀ (A : D → Mt → Prop) (C : Mt → Prop), (p d = true → A (f d) M) → (p d = false → C M) → bnd is d (wipeE env vs) fun env1 => t env1 M fun b M2 => ifB b (we env1 M2 A) (C M2)) →
    R (acc ++ (ds.filter p).map f) M → lcC n ds0 is t we vs env ds acc M R
  | [], acc, R, _, _, h => ⟨⟨hm⟩, by simpa using h⟩
  | d :: r, acc, R, hl, hs, h => by
    refine ⟨⟨hm⟩, ?_⟩
    refine hs d List.mem_cons_self _ _ (fun hp => ⟨⟨by simp at hl; omega⟩, ?_⟩) fun hp => ?_
    · refine lcC_fun hm p f r (acc ++ [f d]) R (by simp at hl ⊢; omega) (fun x hx => hs x (List.mem_cons_of_mem _ hx)) ?_
      rw [List.filter_cons_of_pos hp, List.map_cons] at h
      simpa using h
    · refine lcC_fun hm p f r acc R (by simp at hl ⊢; omega) (fun x hx => hs x (List.mem_cons_of_mem _ hx)) ?_
      rw [List.filter_cons_of_neg (by simp [hp])] at h
      exact h
end
end L3

/-! sorted of pairs (text, whole number) -/
namespace SrtP
open PySem PySem.Spec PyProof.Rows SrtO L2
def lexS (p q : Str × Int) : Bool := if p.1 = q.1 then decide (p.2 < q.2) else decide (p.1.cps.toList < q.1.cps.toList)
theorem str_ext {a b : Str} (h : a.cps.toList = b.cps.toList) : a = b := by
  cases a; cases b
  simp only at h
  rw [Array.toList_inj.mp h]
theorem lexS_iff {p q : Str × Int} : lexS p q = true ↔ p.1.cps.toList < q.1.cps.toList ∨ (p.1 = q.1 ∧ p.2 < q.2) := by
  unfold lexS
  by_cases e : p.1 = q.1
  · rw [if_pos e, decide_eq_true_eq, e]
    exact ⟨fun h => .inr ⟨rfl, h⟩, fun h => h.elim (fun h => absurd h (List.lt_irrefl _)) (·.2)⟩
  · rw [if_neg e, decide_eq_true_eq]
    exact ⟨.inl, fun h => h.elim id fun h => absurd h.1 e⟩
theorem lexS_no {p q : Str × Int} : lexS p q = false ↔ ¬ (p.1.cps.toList < q.1.cps.toList ∨ (p.1 = q.1 ∧ p.2 < q.2)) := by
  rw [← lexS_iff]
  cases lexS p q <;> simp
theorem lexS_asym {p q : Str × Int} (h : lexS p q = true) : lexS q p = false := by
  refine lexS_no.mpr fun g => ?_
  rcases lexS_iff.mp h with a | ⟨a1, a2⟩
  · rcases g with b | ⟨b1, b2⟩
    · exact List.lt_irrefl _ (List.lt_trans a b)
    · rw [b1] at a; exact List.lt_irrefl _ a
  · rcases g with b | ⟨b1, b2⟩
    · rw [a1] at b; exact List.lt_irrefl _ b
    · omega
theorem lexS_tr {x y z : Str × Int} (h1 : lexS y x = false) (h2 : lexS z y = false) : lexS z x = false := by
  refine lexS_no.mpr fun g => ?_
  have a := lexS_no.mp h1
  have b := lexS_no.mp h2
  have a1 : ¬ y.1.cps.toList < x.1.cps.toList := fun z => a (.inl z)
  have b1 : ¬ z.1.cps.toList < y.1.cps.toList := fun z => b (.inl z)
  have c : x.1.cps.toList ≤ z.1.cps.toList := List.le_trans (List.not_lt.mp a1) (List.not_lt.mp b1)
  rcases g with g | ⟨g1, g2⟩
  · exact List.not_lt.mpr c g
  · have e1 : x.1.cps.toList = y.1.cps.toList := List.le_antisymm (List.not_lt.mp a1) (by rw [← g1]; exact List.not_lt.mp b1)
    have e1 := str_ext e1
    have e2 : z.1 = y.1 := g1.trans e1
    have a2 : ¬ y.2 < x.2 := fun z => a (.inr ⟨e1.symm, z⟩)
    have b2 : ¬ z.2 < y.2 := fun z => b (.inr ⟨e2, z⟩)
    omega
theorem swo_lexS {α : Type} (k : α → Str × Int) : Swo fun v u => lexS (k v) (k u) := ⟨fun x y h => lexS_asym h, fun x y z h1 h2 => lexS_tr h1 h2⟩
def IsPairS (h : Heap) (v : Value) (x : Str) (y : Int) : Prop := ∃ a o t u n, v = .ref a ∧ h.get? a = some o ∧ o.cls = .type "tuple" ∧ o.data = .seq #[.str x t, .int y u] n
theorem IsPairS.keeps {h h' : Heap} {v : Value} {x : Str} {y : Int} (p : IsPairS h v x y) (k : ∀ b o, h.get? b = some o → o.cls = .type "tuple" → h'.get? b = some o) : IsPairS h' v x y := by
  obtain ⟨a, o, t, u, n, e, ho, hc, hd⟩ := p
  exact ⟨a, o, t, u, n, e, k a o ho hc, hc, hd⟩
theorem firsts_of {h : Heap} : ∀ {vs : List Value}, (∀ v ∈ vs, ∃ x y, IsPairS h v x y) → ∃ fs : List Value, PySem.W.KatTups h vs fs ∧ fs.length = vs.length ∧ ∀ f ∈ fs, ∃ x t, f = Value.str x t
  | [], _ => ⟨[], trivial, rfl, fun _ h => by cases h⟩
  | v :: vs, hp => by
    obtain ⟨fs, h1, h2, h3⟩ := firsts_of (vs := vs) fun u hu => hp u (List.mem_cons_of_mem _ hu)
    obtain ⟨x, y, a, o, t, u, n, e, ho, hc, hd⟩ := hp v List.mem_cons_self
    refine ⟨.str x t :: fs, ⟨⟨a, o, _, n, e, ho, hc, hd, rfl⟩, h1⟩, by simp [h2], fun f hf => ?_⟩
    rcases List.mem_cons.mp hf with rfl | hf
    · exact ⟨x, t, rfl⟩
    · exact h3 f hf
section
variable {prog : Program} {w : World} {A : Around} {E : Value → Shared → Prop} {s : Shared}
theorem pair_cmp {vs : List Value} {k : Value → Str × Int} (hp : ∀ v ∈ vs, IsPairS s.heap v (k v).1 (k v).2) : Cmp prog w A s (tuples' true) (fun p => p.1 ∈ vs) (lt2 fun v u => lexS (k v) (k u)) := by
  intro p q hm hm'
  have h1 := hp _ hm
  have h2 := hp _ hm'
  show wpAny (model prog w) A (keyLt' (tuples' true) p.1 q.1) (fun r s' => s' = s ∧ r = lexS (k p.1) (k q.1)) (fun _ _ => False) s
  unfold lexS
  generalize (k p.1).1 = x at h1 ⊢
  generalize (k p.1).2 = y at h1 ⊢
  generalize (k q.1).1 = x' at h2 ⊢
  generalize (k q.1).2 = y' at h2 ⊢
  obtain ⟨a, o, t, u, n, e, ho, hc, hd⟩ := h1
  obtain ⟨a', o', t', u', n', e', ho', hc', hd'⟩ := h2
  rw [e, e']
  refine PySem.W.kat_lt ho hd ho' hd' ?_
  show PySem.W.KatLex prog w A true (decide (2 < 2)) _ [(.str x t, .str x' t'), (.int y u, .int y' u')] 0 s
  refine PySem.W.kat_cons (SeqAt.EqAt.str_str x t x' t' prog w _ _ ?_)
  refine PySem.W.kat_go (fun e1 => ?_) (fun e1 => ?_)
  · have ex : x = x' := by simpa using e1
    refine PySem.W.kat_yes (PySem.W.kat_cons (SeqAt.EqAt.int_int y u y' u' prog w _ _ ?_))
    refine PySem.W.kat_go (fun e2 => ?_) (fun e2 => ?_)
    · have ey : y = y' := by simpa using e2
      have e3 : (if x = x' then decide (y < y') else decide (x.cps.toList < x'.cps.toList)) = false := by
        rw [if_pos ex, ey]
        exact decide_eq_false (Int.lt_irrefl _)
      exact PySem.W.kat_yes (PySem.W.kat_nil ⟨rfl, e3.symm⟩)
    · have e3 : (if x = x' then decide (y < y') else decide (x.cps.toList < x'.cps.toList)) = decide (y < y') := if_pos ex
      refine PySem.W.kat_no (PySem.W.kat_one _ _ (PyProof.Rows.lt_int ?_))
      exact (show s = s ∧ decide (y < y') = (if x = x' then decide (y < y') else decide (x.cps.toList < x'.cps.toList)) from ⟨rfl, e3.symm⟩)
  · have ex : ¬ x = x' := by simpa using e1
    have e3 : (if x = x' then decide (y < y') else decide (x.cps.toList < x'.cps.toList)) = decide (x.cps.toList < x'.cps.toList) := if_neg ex
    exact PySem.W.kat_no (oneLt_str ⟨rfl, e3.symm⟩)
theorem pairs_sortable {a : Addr} {vs : List Value} {k : Value → Str × Int} (h0 : 0 < vs.length) (hp : ∀ v ∈ vs, IsPairS s.heap v (k v).1 (k v).2) (ha : ∀ o, s.heap.get? a = some o → o.cls ≠ .type "tuple") : SortableO prog w A s a vs fun v u => lexS (k v) (k u) := by
  intro h' keep
  have hp' : ∀ v ∈ vs, IsPairS h' v (k v).1 (k v).2 := fun v hm => (hp v hm).keeps fun b o e c => keep b o (fun z => by subst z; exact ha o e c) e
  obtain ⟨fs, h1, h2, h3⟩ := firsts_of fun v hm => ⟨_, _, hp' v hm⟩
  refine ⟨tuples' true, fun Q E hq => ?_, pair_cmp hp'⟩
  refine PySem.W.kat_kind (T := .type "str") h1 (by omega) (fun f hm => ?_) (by rfl) ?_
  · obtain ⟨x, t, rfl⟩ := h3 f hm
    exact PySem.W.Looks.now
  · have e : (Value.type "str" != Value.type "tuple") = true := by first | decide +kernel | rfl | decide
    rw [e]
    exact hq
theorem sorted_pairsS {l : Addr} {vs : List Value} {k : Value → Str × Int} {Q : Value → Shared → Prop} (hl : s.heap.IsList l vs.toArray) (hz : vs.length ≤ sizeLine) (hp : ∀ v ∈ vs, IsPairS s.heap v (k v).1 (k v).2)
    (h : ∀ (h' : Heap) (d : Addr) (out : List Value), Srtd (fun v u => lexS (k v) (k u)) out → Stb (fun v u => lexS (k v) (k u)) out vs → (∀ b o, s.heap.get? b = some o → h'.get? b = some o) → s.heap.objs.size ≤ d → (∃ n, h'.get? d = some (seqObj "list" out.toArray n)) → Q (.ref d) { s with heap := h' }) :
    wpAny (model prog w) A (call (.builtin "sorted") [.ref l]) Q E s := by
  refine sorted_ord (swo_lexS k) hl hz (fun h2 h₁ a ha kk => ?_) fun out hs hb => ?_
  · refine pairs_sortable (s := { s with heap := h₁ }) (by omega) (fun v hm => (hp v hm).keeps fun b o e _ => (kk b o e).2) fun o e => ?_
    have e' : some o = some (seqObj "list" vs.toArray 0) := e.symm.trans ha
    cases e'
    intro c
    exact absurd (Value.type.inj c) (by decide)
  · exact h _ _ out hs hb (fun b o e => sortedAll_old e) (Nat.le_succ _) (sortedAll_at s.heap vs out.toArray)
end
end SrtP
namespace L3
open PySem PySem.Spec PyProof.Rows L2
/-- x is the pair p -/
def IsP (K : PySem.W.Frag) (H : Hp) (x : V) (p : Str × Int) : Prop := ∃ t, x = V.ref t ∧ SqT K H t [.str p.1, .int p.2]
/-- sorted(xs), xs a list of pairs (text, whole number) -/
def rSortedPS (K : PySem.W.Frag) : List V → Hp → VK → Prop := fun vs H Q => ∃ (a : Addr) (xs : List V), vs = [V.ref a] ∧ SqL K H a xs ∧ (∀ x ∈ xs, ∃ p, IsP K H x p) ∧
  ∀ ys p, ys.Perm xs → ys.Pairwise (fun x y => ∀ p q, IsP K H x p → IsP K H y q → SrtP.lexS q p = false) → H p = none → Q (.ref p) (upd H p (.lst ys))
section
variable {X : Cx}
theorem cr_sortedPS : CallR X (.builtin "sorted") (rSortedPS X.K) := by
  intro pins s σ H vs us Q I r h
  obtain ⟨a, xs, rfl, hs, hx, q⟩ := h
  obtain ⟨its, rv, hl, hz⟩ := I.list hs
  obtain ⟨u, rfl, ru⟩ := vals1 r
  obtain rfl : u = Value.ref a := ru
  obtain ⟨e1, e2⟩ := refs_back rv fun x m => by
    obtain ⟨p, t, e, _⟩ := hx x m
    exact ⟨t, e⟩
  obtain ⟨k, hk⟩ : ∃ k : V → Str × Int, ∀ x p, IsP X.K H x p → k x = p := by
    classical
    refine ⟨fun x => if h : ∃ p, IsP X.K H x p then Classical.choose h else ("", 0), fun x p hp => ?_⟩
    have h : ∃ p, IsP X.K H x p := ⟨p, hp⟩
    show (if h : ∃ p, IsP X.K H x p then Classical.choose h else ("", 0)) = p
    rw [dif_pos h]
    obtain ⟨t, e, q1⟩ := Classical.choose_spec h
    obtain ⟨t', e', q2⟩ := hp
    rw [e] at e'
    cases e'
    have := I.tuple_inj q1 q2
    injection this with g1 g2
    injection g2 with g2 _
    injection g1 with g1
    injection g2 with g2
    exact Prod.ext g1 g2
  refine SrtP.sorted_pairsS (k := fun u => k (backV u)) hl.isList (by rw [← rv.length]; exact hz) (fun v hv => ?_) fun h' d out h1 h2 kp hd hn => ?_
  · obtain ⟨t, rfl⟩ := e2 v hv
    have hm : V.ref t ∈ xs := by rw [e1]; exact List.mem_map.mpr ⟨_, hv, rfl⟩
    obtain ⟨p, hp⟩ := hx _ hm
    have ek := hk _ _ hp
    obtain ⟨t', e, ht⟩ := hp
    cases e
    obtain ⟨its2, r2, ⟨o, ho, hc, n, hd⟩, _⟩ := I.tuple ht
    obtain ⟨u1, u2, rfl, ri, rj⟩ := vals2 r2
    obtain ⟨t1, rfl⟩ := ri
    obtain ⟨t2, rfl⟩ := rj
    show SrtP.IsPairS s.heap _ (k (.ref t)).1 (k (.ref t)).2
    rw [ek]
    exact ⟨t, o, t1, t2, n, rfl, ho, hc, hd⟩
  · have h3 : ∀ u ∈ out, ∃ a, u = Value.ref a := fun u hu => e2 u (h2.perm.mem_iff.mp hu)
    obtain ⟨n, hn⟩ := hn
    have hb : (out.map backV).Perm xs := by
      rw [e1]
      exact h2.perm.map backV
    refine ⟨.ref d, upd H d (.lst (out.map backV)), I.laid (t' := s.toks) kp hd ⟨?_, out, n, vals_back h3, hn⟩, rfl, q _ d hb ?_ (I.hok.fresh hd)⟩
    · rw [hb.length_eq]
      exact hz
    · refine List.pairwise_map.mpr (List.Pairwise.imp (fun {x y} hxy p q hp hq => ?_) h1)
      rw [← hk _ _ hp, ← hk _ _ hq]
      exact hxy
end
def pD (p : Str × Int) : D := .tup [.str p.1, .int p.2]
def psD : List D → Option (List (Str × Int))
  | [] => some []
  | .tup [.str s, .int i] :: r => (psD r).map ((s, i) :: ·)
  | _ => none
theorem psD_map : ∀ ps : List (Str × Int), psD (ps.map pD) = some ps
  | [] => rfl
  | p :: r => by
    show (psD (r.map pD)).map ((p.1, p.2) :: ·) = _
    rw [psD_map r]; rfl
theorem psD_inv : ∀ {l : List D} {ps : List (Str × Int)}, psD l = some ps → l = ps.map pD
  | [], ps, h => by cases h; rfl
  | d :: r, ps, h => by
    unfold psD at h
    split at h
    · rename_i e; cases e
    · rename_i s i r' e
      cases e
      obtain ⟨qs, e1, rfl⟩ := Option.map_eq_some_iff.mp h
      rw [psD_inv e1]; rfl
    · cases h
section
variable {K : PySem.W.Frag} {P H : Hp} {al : List Addr} {B : Bs}
theorem isP_of (sm : Same P H) {p : Str × Int} {v : V} (r : Rep K P al (pD p) v) : IsP K H v p := by
  cases r with
  | tup q r2 =>
    cases r2 with
    | cons r1 t => cases t with
      | cons r2 t => cases t; cases r1; cases r2; exact ⟨_, rfl, same_seqT sm q⟩
theorem reps_perm {ys xs : List V} (p : ys.Perm xs) : ∀ {ps : List (Str × Int)}, Reps K P al (ps.map pD) xs → ∃ qs : List (Str × Int), qs.Perm ps ∧ Reps K P al (qs.map pD) ys := by
  induction p with
  | nil => intro ps r; exact ⟨ps, .refl _, r⟩
  | cons x p ih =>
    intro ps r
    cases ps with
    | nil => cases r
    | cons a ps => cases r with
      | cons r1 t =>
        obtain ⟨qs, q1, q2⟩ := ih t
        exact ⟨a :: qs, q1.cons _, .cons r1 q2⟩
  | swap x y l =>
    intro ps r
    cases ps with
    | nil => cases r
    | cons a ps => cases r with
      | cons r1 t =>
        cases ps with
        | nil => cases t
        | cons b ps => cases t with
          | cons r2 t => exact ⟨b :: a :: ps, .swap .., .cons r2 (.cons r1 t)⟩
  | trans _ _ ih1 ih2 =>
    intro ps r
    obtain ⟨qs, q1, q2⟩ := ih2 r
    obtain ⟨rs, r1, r2⟩ := ih1 q2
    exact ⟨rs, r1.trans q1, r2⟩
theorem reps_pair (sm : Same P H) : ∀ {ys : List V} {qs : List (Str × Int)}, Reps K P al (qs.map pD) ys → ys.Pairwise (fun x y => ∀ p q, IsP K H x p → IsP K H y q → SrtP.lexS q p = false) → qs.Pairwise fun p q => SrtP.lexS q p = false
  | [], [], _, _ => .nil
  | [], _ :: _, r, _ => by cases r
  | _ :: _, [], r, _ => by cases r
  | y :: ys, q :: qs, r, h => by
    cases r with
    | cons r1 t =>
      obtain ⟨h1, h2⟩ := List.pairwise_cons.mp h
      refine List.pairwise_cons.mpr ⟨fun p hp => ?_, reps_pair sm t h2⟩
      obtain ⟨v, hv, hr⟩ : ∃ v, v ∈ ys ∧ Rep K P al (pD p) v := by
        obtain ⟨i, hi⟩ := List.mem_iff_getElem?.mp (List.mem_map.mpr ⟨p, hp, rfl⟩ : pD p ∈ qs.map pD)
        obtain ⟨v, e, r⟩ := t.get hi
        exact ⟨v, List.mem_of_getElem? e, r⟩
      exact h1 v hv _ _ (isP_of sm r1) (isP_of sm hr)
/-- sorted(xs) of pairs -/
@[irreducible] def cSortP : WCl := fun ds M R => match ds with
  | [x] => match lstD (viewD M x) with
    | some l => match psD l with
      | some ps => ∀ qs : List (Str × Int), qs.Perm ps → (qs.Pairwise fun p q => SrtP.lexS q p = false) → R (.lst (qs.map pD)) M
      | none => False
    | none => False
  | _ => False
theorem cSortP_ok : CallD K B (rSortedPS K) cSortP := by
  intro P al M env σ H vs ds R Q rs r h L
  unfold cSortP at h
  split at h
  · cases r with
    | cons r1 t =>
      cases t
      split at h
      · rename_i l e1
        split at h
        · rename_i ps e2
          obtain ⟨a, xs, rfl, h1, q1⟩ := view_lstD rs.toRS0 r1 e1
          rw [psD_inv e2] at q1
          refine ⟨a, xs, rfl, h1, fun x hx => ?_, fun ys p hp hs hn => ?_⟩
          · obtain ⟨i, hi⟩ := List.mem_iff_getElem?.mp hx
            obtain ⟨d, e, r⟩ := q1.getV hi
            obtain ⟨p, _, rfl⟩ := List.mem_map.mp (List.mem_of_getElem? e)
            exact ⟨p, isP_of rs.same r⟩
          · obtain ⟨qs, g1, g2⟩ := reps_perm hp q1
            exact L.alloc rs hn (.lst upd_same (g2.mono (fun b o e => by rw [upd_ne (ne_of_none (rs.same _ _ e) hn)]; exact e) (List.prefix_refl _))) (h qs g1 (reps_pair rs.same g2 hs))
        · exact h.elim
      · exact h.elim
  · exact h.elim
theorem sortP_use {ps : List (Str × Int)} {x : D} {M : Mt} {R : D → Mt → Prop} (h : viewD M x = .lst (ps.map pD)) (k : ∀ qs : List (Str × Int), qs.Perm ps → (qs.Pairwise fun p q => SrtP.lexS q p = false) → R (.lst (qs.map pD)) M) : cSortP [x] M R := by
  simp only [cSortP, h, lstD, psD_map]; exact k
end
end L3

/-! plain tuples, dict(pairs), d.get(k, x) -/
namespace L3
open PySem PySem.Spec PyProof.Rows L2
section
variable {X : Cx}
theorem Inv.ptup {pins : List (Addr × Obj)} {σ : L2.St} {H : Hp} {s : Shared} {a : Addr} {xs : List V} (I : L2.Inv X pins σ H s) (h : SqP H a xs) :
    ∃ (o : Obj) (its : List Value) (n : Nat), Vals xs its ∧ s.heap.get? a = some o ∧ o.cls = .type "tuple" ∧ o.dict = none ∧ o.data = .seq its.toArray n ∧ xs.length ≤ sizeLine := by
  obtain ⟨o, e, hd⟩ := h
  obtain ⟨g, z, its, r, o', ho', hc, n, hdat⟩ := I.hok _ _ e
  rw [g] at ho'; cases ho'
  exact ⟨o, its, n, r, g, hc, hd, hdat, z⟩
/-- tuple(xs) of a list: a plain tuple -/
def rTupP (K : PySem.W.Frag) : List V → Hp → VK → Prop := fun xs H Q => ∃ p ys, xs = [.ref p] ∧ SqL K H p ys ∧ ∀ (l : Addr) (o : Obj), o.dict = none → H l = none → Q (.ref l) (upd H l (.frz o (.tup ys)))
theorem call_tupP : CallR X (.type "tuple") (rTupP X.K) := by
  intro pins s σ H xs us Q I r h
  obtain ⟨p, ys, rfl, hq, q⟩ := h
  obtain ⟨u, rfl, rx⟩ := vals1 r
  cases rx
  obtain ⟨its, r', pl, hz⟩ := I.list hq
  have hlen := r'.length
  refine call_tuple_list pl.isList (fun h' kp => ?_) (by simp only [List.size_toArray] <;> omega)
  have I1 : L2.Inv X pins σ H { s with heap := h' } := I.kept (t' := s.toks) kp
  have I2 : L2.Inv X pins σ (upd H h'.objs.size (.frz { cls := .type "tuple", data := .seq its.toArray } (.tup ys))) { s with heap := h'.push { cls := .type "tuple", data := .seq its.toArray } } :=
    I1.laid (t' := s.toks) (fun b o e => Heap.get?_push_of_some _ e) (Nat.le_refl _) (show ObjOk X.prog X.w _ _ _ (.frz _ (.tup ys)) from ⟨Heap.get?_push_size _ rfl, hz, its, r', IsTup.new _ _⟩)
  exact ⟨.ref h'.objs.size, _, I2, rfl, q _ _ rfl (I1.hok.fresh (Nat.le_refl _))⟩
/-- t + u of plain tuples: a plain tuple -/
def rCatP : R2 := fun x y H Q => ∃ a b xs ys, x = .ref a ∧ y = .ref b ∧ SqP H a xs ∧ SqP H b ys ∧ xs.length + ys.length ≤ sizeLine ∧
  (xs = [] → Q (.ref b) H) ∧ (xs ≠ [] → ys = [] → Q (.ref a) H) ∧ (xs ≠ [] → ys ≠ [] → ∀ (p : Addr) (o : Obj), o.dict = none → H p = none → Q (.ref p) (upd H p (.frz o (.tup (xs ++ ys)))))
theorem nil_iffV {xs : List V} {us : List Value} (r : Vals xs us) : us = [] ↔ xs = [] := by
  cases r with
  | nil => simp
  | cons _ _ => simp
theorem op_catP : OpR X (binaryOp .Add) rCatP := by
  intro pins s σ H x y v u Q I rx ry h
  obtain ⟨a, b, xs, ys, rfl, rfl, ha, hb, hz, q0, q1, q2⟩ := h
  cases rx
  cases ry
  obtain ⟨its, r1, p1, _⟩ := I.tuple (SqP.seqT (K := X.K) ha)
  obtain ⟨its2, r2, p2, _⟩ := I.tuple (SqP.seqT (K := X.K) hb)
  by_cases hx : xs = []
  · subst hx
    cases r1
    exact L2.cat_tup0 p1 p2 ⟨.ref b, H, I, rfl, q0 rfl⟩
  · refine HT.cat_tup p1 p2 (fun z => hx ((nil_iffV r1).mp z)) (fun z => ⟨.ref a, H, I, rfl, q1 hx ((nil_iffV r2).mp z)⟩) (fun z => ?_) (by rw [← r1.length, ← r2.length]; exact hz)
    refine ⟨.ref s.heap.objs.size, _, I.laid (t' := s.toks) (o := .frz { cls := .type "tuple", data := .seq (its ++ its2).toArray } (.tup (xs ++ ys))) (fun b ob q => Heap.get?_push_of_some _ q) (Nat.le_refl _) ?_, rfl, q2 hx (fun w => z ((nil_iffV r2).mpr w)) _ _ rfl (I.hok.fresh (Nat.le_refl _))⟩
    exact ⟨Heap.get?_push_size _ rfl, by rw [List.length_append]; exact hz, _, r1.append r2, IsTup.new _ _⟩
theorem pairs_V {h : Heap} : ∀ {prs : List (Key × Value)} {ps : List Addr}, prs.length = ps.length → (∀ (j : Nat) (q : Key × Value), prs[j]? = some q → ∃ (b : Addr) (u : Value), ps[j]? = some b ∧ IsTup h b #[u, q.2] ∧ keyIs q.1 u = true) →
    ∃ pv : List (Value × Value), pv.length = prs.length ∧ ∀ (j : Nat) (k v : Value), pv[j]? = some (k, v) → ∃ (q : Key × Value) (b : Addr), prs[j]? = some q ∧ q.2 = v ∧ ps[j]? = some b ∧ IsTup h b #[k, v] ∧ keyIs q.1 k = true
  | [], ps, _, _ => ⟨[], rfl, fun j k v e => by simp at e⟩
  | q :: prs, [], e, _ => by simp at e
  | q :: prs, p :: ps, e, hp => by
    obtain ⟨b, u, h1, h2, h3⟩ := hp 0 q rfl
    obtain ⟨pv, g1, g2⟩ := pairs_V (prs := prs) (ps := ps) (by simpa using e) fun j q' e' => by
      obtain ⟨b, u, h1, h2⟩ := hp (j + 1) q' (by simpa using e')
      exact ⟨b, u, by simpa using h1, h2⟩
    refine ⟨(u, q.2) :: pv, by simp [g1], fun j k v e' => ?_⟩
    cases j with
    | zero =>
      have e2 : (u, q.2) = (k, v) := Option.some.inj e'
      cases e2
      exact ⟨q, b, rfl, rfl, h1, h2, h3⟩
    | succ j =>
      obtain ⟨q', b', f1, f2, f3, f4⟩ := g2 j k v (by simpa using e')
      exact ⟨q', b', by simpa using f1, f2, by simpa using f3, f4⟩
/-- dict(t) of a plain tuple of pairs -/
def rDictT (K : PySem.W.Frag) : List V → Hp → VK → Prop := fun xs H Q => ∃ (a : Addr) (ps : List Addr) (kvs : List (Key × V)), xs = [.ref a] ∧ SqP H a (ps.map V.ref) ∧ Paired (fun p kv => SqT K H p [kV kv.1, kv.2]) ps kvs ∧
    ∀ p, H p = none → Q (.ref p) (upd H p (.dK (mergeK [] kvs)))
theorem call_dictT (hcalm : X.calm = true) : CallR X (.type "dict") (rDictT X.K) := by
  intro pins s σ H xs us Q I r q
  obtain ⟨a, ps, kvs, ex, hq, hp, q⟩ := q
  subst ex
  obtain ⟨u, eu, rx⟩ := vals1 r
  subst eu
  cases rx
  obtain ⟨o, its, n, rv, ho, hc, hd, hdat, hz⟩ := Inv.ptup I hq
  have ei := refs_at rv
  subst ei
  rw [List.length_map] at hz
  obtain ⟨prs, rel, hl, hpr⟩ := pairs_of I hp
  obtain ⟨pv, g1, g2⟩ := pairs_V hl hpr
  refine call_dict_pairs (knd := mixKind X.prog X.w) (kvs := prs) (PairArg.tuple a (ps.map Value.ref).toArray (fun j => ps.getD j 0) pv) (I.ok.hd hcalm) ⟨⟨o, n, ho, hc, hd, hdat⟩, ?_, fun j k v e => ?_⟩ ⟨g1.symm, fun j k v e => ?_⟩ (by rw [g1, hl]; exact hz) fun h' tk hd' k => ?_
  · simp [g1, hl]
  · obtain ⟨q', b, f1, f2, f3, f4, f5⟩ := g2 j k v e
    have eb : ps.getD j 0 = b := by rw [List.getD_eq_getElem?_getD, f3]; rfl
    refine ⟨?_, .inl ?_⟩
    · simp [f3]
    · show s.heap.IsTuple (ps.getD j 0) #[k, v]
      rw [eb]
      exact f4
  · obtain ⟨q', b, f1, f2, f3, f4, f5⟩ := g2 j k v e
    exact ⟨q'.1, by rw [f1, ← f2], f5⟩
  · have hm : (s.heap.objs.size == sysModules) = false := beq_eq_false_iff_ne.mpr (Nat.ne_of_gt I.big)
    have hlen : (mergeK [] kvs).length ≤ sizeLine := by
      refine Nat.le_trans (length_mergeK kvs []) ?_
      rw [List.length_nil, Nat.zero_add, rel.length, hl]
      exact hz
    exact ⟨.ref s.heap.objs.size, upd H s.heap.objs.size (.dK (mergeK [] kvs)), I.laid (t' := tk) (fun b o e => k b o (by simp) e) (Nat.le_refl _) (show ObjOk X.prog X.w _ _ _ (.dK (mergeK [] kvs)) from ⟨hlen, hm, merged [] prs, KV.merge rel .nil, hd'⟩), rfl, q _ (I.hok.fresh (Nat.le_refl _))⟩
end
/-! ### over data -/
/-- a plain tuple as any tuple -/
def fgt : D → D
  | .ptp l => .tup l
  | d => d
def wFgt (we : WE) : WE := fun env M R => we env M fun d M1 => R (fgt d) M1
section
variable {K : PySem.W.Frag} {P H : Hp} {al : List Addr} {B : Bs} {X : Cx} {e o f : Expr} {we wo wi wf : WE} {pos apos cpos : Pos}
theorem Rep.fgt {d : D} {v : V} (r : Rep K P al d v) : Rep K P al (L3.fgt d) v := by
  cases r with
  | ptp q t => exact .tup q.seqT t
  | non => exact .non
  | bl b => exact .bl b
  | int i => exact .int i
  | str s => exact .str s
  | ty n => exact .ty n
  | adr a => exact .adr a
  | tup q t => exact .tup q t
  | lst q t => exact .lst q t
  | rol q t => exact .rol q t
  | dct q t => exact .dct q t
  | fdc q t => exact .fdc q t
  | obj q c t => exact .obj q c t
  | cls c => exact .cls c
  | cel e => exact .cel e
theorem d_fgt (h : DE B X e we) : DE B X e (wFgt we) := h.imp fun σ H Q => by
  rintro ⟨P, al, M, env, R, rs, hw, L⟩
  exact ⟨P, al, M, env, _, rs, hw, fun d M1 v H1 P1 al1 e1 rs1 r1 q => L _ _ _ _ _ _ e1 rs1 r1.fgt q⟩
/-- tuple(xs) -/
@[irreducible] def cTupP : WCl := fun ds M R => match ds with
  | [x] => match lstD (viewD M x) with
    | some l => R (.ptp l) M
    | none => False
  | _ => False
theorem cTupP_ok : CallD K B (rTupP K) cTupP := by
  intro P al M env σ H vs ds R Q rs r h L
  unfold cTupP at h
  split at h
  · cases r with
    | cons r1 t =>
      cases t
      split at h
      · rename_i l e1
        obtain ⟨a, xs, rfl, h1, q1⟩ := view_lstD rs.toRS0 r1 e1
        exact ⟨a, xs, rfl, h1, fun p o hd hn => L.alloc rs hn (.ptp ⟨o, upd_same, hd⟩ (q1.mono (fun b x e => by rw [upd_ne (ne_of_none e (rs.toRS0.free hn))]; exact e) (List.prefix_refl _))) h⟩
      · exact h.elim
  · exact h.elim
theorem tupP_use {l : List D} {x : D} {M : Mt} {R : D → Mt → Prop} (h : lstD (viewD M x) = some l) (k : R (.ptp l) M) : cTupP [x] M R := by
  simp only [cTupP, h]; exact k
/-- t + u of plain tuples -/
@[irreducible] def oCatP : WO2 := fun x y M R => match x, y with
  | .ptp l, .ptp m => Need (l.length + m.length ≤ sizeLine) ∧ R (.ptp (l ++ m)) M
  | _, _ => False
theorem oCatP_ok : OpD K B rCatP oCatP := by
  intro P al M env σ H x y dx dy R Q rs r1 r2 h L
  unfold oCatP at h
  split at h
  · obtain ⟨hz, h⟩ := h
    cases r1 with
    | ptp q1 t1 => cases r2 with
      | ptp q2 t2 =>
        refine ⟨_, _, _, _, rfl, rfl, q1.same rs.same, q2.same rs.same, by rw [← t1.length, ← t2.length]; exact hz.out, fun hx => ?_, fun _ hy => ?_, fun _ _ p o hd hn => ?_⟩
        · subst hx
          cases t1
          exact L.here rs (.ptp q2 t2) h
        · subst hy
          cases t2
          rw [List.append_nil] at h
          exact L.here rs (.ptp q1 t1) h
        · exact L.alloc rs hn (.ptp ⟨o, upd_same, hd⟩ ((t1.append t2).mono (fun b x e => by rw [upd_ne (ne_of_none e (rs.toRS0.free hn))]; exact e) (List.prefix_refl _))) h
  · exact h.elim
theorem catP_use {l m : List D} {M : Mt} {R : D → Mt → Prop} (h : l.length + m.length ≤ sizeLine) (k : R (.ptp (l ++ m)) M) : oCatP (.ptp l) (.ptp m) M R := by
  simp only [oCatP]; exact ⟨⟨h⟩, k⟩
/-- pairs (key, value) -/
def kpD : List D → Option (List (Key × D))
  | [] => some []
  | .tup [k, d] :: r => match keyD k, kpD r with
    | some k', some r' => some ((k', d) :: r')
    | _, _ => none
  | _ => none
theorem kp_rep {xs : List V} : ∀ {l : List D} {xs : List V} {ks : List (Key × D)}, Reps K P al l xs → kpD l = some ks → ∃ (ps : List Addr) (kvs : List (Key × V)), xs = ps.map V.ref ∧ Paired (fun p kv => SqT K P p [kV kv.1, kv.2]) ps kvs ∧ RepKs K P al ks kvs
  | [], _, _, r, h => by
    cases r; cases h
    exact ⟨[], [], rfl, .nil, .nil⟩
  | d :: l, _, ks, r, h => by
    unfold kpD at h
    split at h
    · rename_i e; cases e
    · rename_i k d' r' e
      cases e
      split at h
      · rename_i k' ks' e1 e2
        cases h
        cases r with
        | cons r1 t =>
          obtain ⟨ps, kvs, rfl, g2, g3⟩ := kp_rep (xs := []) t e2
          cases r1 with
          | tup q r1 => cases r1 with
            | cons ra t1 => cases t1 with
              | cons rb t2 =>
                cases t2
                rw [key_rep ra e1] at q
                exact ⟨_ :: ps, (k', _) :: kvs, rfl, .cons q g2, .cons rb g3⟩
      · cases h
    · cases h
theorem paired_imp {α β : Type} {F G : α → β → Prop} (h : ∀ a b, F a b → G a b) : ∀ {l : List α} {m : List β}, Paired F l m → Paired G l m
  | _, _, .nil => .nil
  | _, _, .cons x t => .cons (h _ _ x) (paired_imp h t)
/-- dict(xs) of a list of pairs -/
@[irreducible] def cDictL : WCl := fun ds M R => match ds with
  | [x] => match lstD (viewD M x) with
    | some l => match kpD l with
      | some ks => R (.dct (mergeD [] ks)) M
      | none => False
    | none => False
  | _ => False
theorem cDictL_ok : CallD K B (fun xs H Q => ∃ (a : Addr) (ps : List Addr) (kvs : List (Key × V)), xs = [.ref a] ∧ SqL K H a (ps.map V.ref) ∧ Paired (fun p kv => SqT K H p [kV kv.1, kv.2]) ps kvs ∧
    ∀ p, H p = none → Q (.ref p) (upd H p (.dK (mergeK [] kvs)))) cDictL := by
  intro P al M env σ H vs ds R Q rs r h L
  unfold cDictL at h
  split at h
  · cases r with
    | cons r1 t =>
      cases t
      split at h
      · rename_i l e1
        split at h
        · rename_i ks e2
          obtain ⟨a, xs, rfl, h1, q1⟩ := view_lstD rs.toRS0 r1 e1
          obtain ⟨ps, kvs, rfl, g2, g3⟩ := kp_rep (xs := []) q1 e2
          exact ⟨a, ps, kvs, rfl, h1, paired_imp (fun _ _ z => same_seqT rs.same z) g2, fun p hn => L.alloc rs hn (.dct upd_same ((RepKs.merge g3 .nil).mono (fun b x e => by rw [upd_ne (ne_of_none e (rs.toRS0.free hn))]; exact e) (List.prefix_refl _))) h⟩
        · exact h.elim
      · exact h.elim
  · exact h.elim
/-- dict(t) of a plain tuple of pairs -/
@[irreducible] def cDictT : WCl := fun ds M R => match ds with
  | [.ptp l] => match kpD l with
    | some ks => R (.dct (mergeD [] ks)) M
    | none => False
  | _ => False
theorem cDictT_ok : CallD K B (rDictT K) cDictT := by
  intro P al M env σ H vs ds R Q rs r h L
  unfold cDictT at h
  split at h
  · cases r with
    | cons r1 t =>
      cases t
      split at h
      · rename_i ks e2
        cases r1 with
        | ptp q1 t1 =>
          obtain ⟨ps, kvs, rfl, g2, g3⟩ := kp_rep (xs := []) t1 e2
          exact ⟨_, ps, kvs, rfl, q1.same rs.same, paired_imp (fun _ _ z => same_seqT rs.same z) g2, fun p hn => L.alloc rs hn (.dct upd_same ((RepKs.merge g3 .nil).mono (fun b x e => by rw [upd_ne (ne_of_none e (rs.toRS0.free hn))]; exact e) (List.prefix_refl _))) h⟩
      · exact h.elim
  · exact h.elim
theorem dictL_use {l : List D} {ks : List (Key × D)} {x : D} {M : Mt} {R : D → Mt → Prop} (h : lstD (viewD M x) = some l) (h2 : kpD l = some ks) (k : R (.dct (mergeD [] ks)) M) : cDictL [x] M R := by
  simp only [cDictL, h, h2]; exact k
theorem dictT_use {l : List D} {ks : List (Key × D)} {M : Mt} {R : D → Mt → Prop} (h2 : kpD l = some ks) (k : R (.dct (mergeD [] ks)) M) : cDictT [.ptp l] M R := by
  simp only [cDictT, h2]; exact k
/-- d.get(k, x) -/
def isDct : D → Bool
  | .dct _ => true
  | .fdc _ => true
  | _ => false
@[irreducible] def oGet2 (d y z : D) (M : Mt) (R : D → Mt → Prop) : Prop := match viewD M d, keyD y with
  | .dct ks, some k => R ((valD ks k).getD z) M
  | .fdc ks, some k => R ((valD ks k).getD z) M
  | _, _ => False
def wGet2 (wd wy wz : WE) : WE := fun env M R => wd env M fun d M1 => isDct (viewD M1 d) = true ∧ wy env M1 fun y M2 => wz env M2 fun z M3 => oGet2 d y z M3 R
theorem d_get2 (hu : X.A.units + 1 < cLine) (ho : DE B X o wo) (he : DE B X e wi) (hf : DE B X f wf) (m : M2 X o "get" apos e f cpos := by exact ⟨rfl, rfl, rfl, rfl⟩) : DE B X (.Call (.Attribute o "get" apos) [e, f] [] cpos) (wGet2 wo wi wf) := by
  refine (pe_dget2 hu ho he hf m).imp fun σ H Q => ?_
  rintro ⟨P, al, M, env, R, rs, hw, L⟩
  refine ⟨P, al, M, env, _, rs, hw, fun d1 M1 v1 H1 P1 al1 e1 rs1 r1 hw1 => ?_⟩
  obtain ⟨hd, hw1⟩ := hw1
  have hv : ∃ ks, viewD M1 d1 = .dct ks ∨ viewD M1 d1 = .fdc ks := by
    cases hv : viewD M1 d1 <;> rw [hv] at hd <;> first | exact ⟨_, .inl rfl⟩ | exact ⟨_, .inr rfl⟩ | cases hd
  obtain ⟨ks, hv⟩ := hv
  obtain ⟨a, xs, rfl, g1, g2⟩ := view_dk rs1.toRS0 r1 hv
  refine ⟨a, rfl, .inl ⟨xs, g1⟩, P1, al1, M1, env, _, rs1, hw1, fun d2 M2 v2 H2 P2 al2 e2 rs2 r2 hw2 => ⟨P2, al2, M2, env, _, rs2, hw2, fun d3 M3 v3 H3 P3 al3 e3 rs3 r3 q => ?_⟩⟩
  have q' : ∃ ks2 k, (viewD M3 d1 = .dct ks2 ∨ viewD M3 d1 = .fdc ks2) ∧ keyD d2 = some k ∧ R ((valD ks2 k).getD d3) M3 := by
    unfold oGet2 at q
    split at q
    · exact ⟨_, _, .inl (by assumption), by assumption, q⟩
    · exact ⟨_, _, .inr (by assumption), by assumption, q⟩
    · exact q.elim
  obtain ⟨ks2, k, h1, h2, q⟩ := q'
  obtain ⟨a', xs', ea, f1, f2⟩ := view_dk rs3.toRS0 (r1.mono (e2.trans e3).pp (e2.trans e3).pre) h1
  cases ea
  refine ⟨valV xs' k, .inl ⟨xs', k, f1, ?_, rfl⟩, ?_⟩
  · exact key_rep (r2.mono e3.pp e3.pre) h2
  · cases hv2 : valD ks2 k with
    | none =>
      rw [hv2] at q
      rw [(f2.val k).2 hv2]
      exact L _ _ _ _ _ _ (e1.trans (e2.trans e3)) rs3 r3 q
    | some d =>
      rw [hv2] at q
      obtain ⟨v, g3, g4⟩ := (f2.val k).1 d hv2
      rw [g3]
      exact L _ _ _ _ _ _ (e1.trans (e2.trans e3)) rs3 g4 q
theorem get2_use {d y z : D} {ks : List (Key × D)} {k : Key} {M : Mt} {R : D → Mt → Prop} (h : viewD M d = .dct ks) (h2 : keyD y = some k) (q : R ((valD ks k).getD z) M) : oGet2 d y z M R := by
  simp only [oGet2, h, h2]; exact q
end
end L3

/-! x |= y by an own __or__; min(i, j); list(d.items()); isinstance(e, ValueError) in a suite -/
namespace L3
open PySem PySem.Spec PyProof.Rows L2
/-- an own class over object alone, that has no method m -/
structure NoIop (K : PySem.W.Frag) (C : Addr) (m : Str) : Prop where
  mro : ∃ cd, PySem.W.clsIn K C = some cd ∧ cd.mro = [.ref C, .type "object"]
  no : PySem.W.findIn K (.ref C) m = some none
  ob : PySem.W.findIn K (.type "object") m = some none
theorem fillsI_no {K : PySem.W.Frag} {M : Model} {h : Heap} {nm : String} {add : Bool} {C : Addr} (X : K.In h) (T : NoIop K C (dunderI nm)) : PySem.W.Looks M h (fillsInplaceSlot (.ref C) nm add) false := by
  intro A Q E s k q
  obtain ⟨cd, hc, hm⟩ := T.mro
  have Lm : PySem.W.Looks M h (mroOf (.ref C)) cd.mro := (PySem.W.looks_clsIn X hc).andThen (f := fun cd => pure cd.mro) .now
  have L1 := PySem.W.looks_findIn (M := M) X T.no
  have L2 := PySem.W.looks_findIn (M := M) X T.ob
  unfold fillsInplaceSlot
  refine wpAny_bind (Lm A _ E s k ?_)
  rw [hm, List.anyM_cons]
  refine wpAny_bind (wpAny_bind (L1 A _ E s k ?_))
  refine wpAny_pure ?_
  rw [if_neg (by simp), List.anyM_cons]
  refine wpAny_bind (wpAny_bind (L2 A _ E s k ?_))
  refine wpAny_pure ?_
  rw [if_neg (by simp), List.anyM_nil]
  exact wpAny_pure q
theorem iop_K {K : PySem.W.Frag} {prog : Program} {w : World} {A : Around} {E : Value → Shared → Prop} {s : Shared} {h₀ : Heap} {Lc x C f : Addr} {ox : Obj} {od : Option Obj} {m : Str → Option Value} {op : Operator} {b : Value} {Q : Value → Shared → Prop} (F : Fr h₀ Lc s.heap m) (X₀ : K.In h₀) (I : PySem.W.InstAt s.heap x ox C od) (hb : PySem.W.Looks (model prog w) s.heap (typeOf b) (.ref C)) (hc : PySem.W.selfFirst K C = true)
    (T : NoIop K C (dunderI op.info.2)) (hs : PySem.W.findIn K (.ref C) (PySem.dunder op.info.2) = some (some (.ref f))) (hf : PySem.W.isFn K (.ref f) = true)
    (h : wpAny (model prog w) A (call (.ref f) [.ref x, b]) (PySem.W.CmpBack Q) E s) : wpAny (model prog w) A (inplaceOp op (.ref x) b) Q E s := by
  have X := X₀.keeps F.keep
  obtain ⟨cd, hcd, hm⟩ := T.mro
  unfold inplaceOp
  refine wpAny_holding ?_
  refine wpAny_bind (I.type.here (wpAny_bind ((fillsI_no X T).here ?_)))
  simp only [Bool.false_eq_true, if_false]
  refine wpAny_bind ?_
  unfold binaryOp1
  refine wpAny_bind (I.type.here (wpAny_bind (hb.here (wpAny_bind ((PySem.W.fills_K X hcd hm hs).here ?_)))))
  simp only [beq_self_eq_true, if_true]
  refine wpAny_bind (wpAny_pure ?_)
  simp only [Bool.and_false, Bool.false_eq_true, if_false, Bool.false_and]
  refine wpAny_bind (wpAny_pure ?_)
  simp only [Bool.false_eq_true, if_false]
  refine wpAny_bind (m := tryMethod (.ref x) _ b) ?_
  unfold tryMethod
  refine wpAny_bind (PySem.W.special_fn X I hs (beq_iff_eq.mp hf) (wpAny_mono h (fun v s' hv => ?_) fun _ _ e => e))
  cases v <;> first | exact hv.elim | exact wpAny_pure (wpAny_pure (wpAny_pure hv))
theorem toSp_imp {K : PySem.W.Frag} {sp : DSp} {vs : List V} {H : Hp} {Q : VK} {E E' : XK} (h : ∀ C dd H', E C dd H' → E' C dd H') (q : toSp K sp vs H Q E) : toSp K sp vs H Q E' := by
  obtain ⟨P, al, M, ds, R, RX, rs, r, hw, L, LX⟩ := q
  exact ⟨P, al, M, ds, R, RX, rs, r, hw, L, fun C n fs M' H' P' al' dd e r0 c xd q => h _ _ _ (LX C n fs M' H' P' al' dd e r0 c xd q)⟩
section
variable {X : Cx} {B : Bs} {CX : CXT} {k : Nat} {f C : Addr} {sp : DSp} {n : Str} {e : Expr} {we : WE} {op : Operator} {pos pos' : Pos}
/-- x op= e, both of the class n, by its own method; nothing is raised -/
def wAugO (i : Nat) (n : Str) (sp : DSp) (we : WE) : WS := fun k env M => match env[i]? with
  | some (some x) => we env M fun y M1 => match viewD M1 x, viewD M1 y with
    | .obj n1 _, .obj n2 _ => Need (n1 = n ∧ n2 = n) ∧ sp [x, y] M1 (fun z M2 => k.nx (env.set i (some z)) M2) fun _ _ _ => False
    | _, _ => False
  | _ => False
theorem d_augO {i : Nat} {x : Str} (ca : ClsAt X.K n C) (sf : PySem.W.selfFirst X.K C = true) (oc : OpC X.K C (PySem.dunder op.info.2) f) (T : NoIop X.K C (dunderI op.info.2)) (F : FnR X.prog X.w X.K X.mg X.base CX k f (toSp X.K sp)) (hr : Room k X.A) (hx : Rz X B CX RXn) (hN : X.N.Nodup) (he : DE B X e we)
    (hi : X.N[i]? = some x := by rfl) (hl : Loc X.env.scope x := by first | exact .inl rfl | exact .inr rfl) (hf : X.fn x = true ∨ X.env.scope.names.lookup x = some .local := by first | exact .inl rfl | exact .inr rfl | assumption) :
    DS B X (.AugAssign (.Name x pos') op e pos) (wAugO i n sp we) := by
  refine (ps_aug (ti := fun x y H Q => ∃ p q dx dy fs gs, x = .ref p ∧ y = .ref q ∧ H p = some (.ins C dx fs) ∧ H q = some (.ins C dy gs) ∧ toSp X.K sp [.ref p, .ref q] H Q fun _ _ _ => False) hN hi hl he (fun pins s σ H x y v u Q I r1 r2 q => ?_) hf).imp fun D σ H => ?_
  · obtain ⟨p, q', dx, dy, fs, gs, rfl, rfl, hp, hq, h⟩ := q
    cases r1
    cases r2
    obtain ⟨m, fr⟩ := I.fr
    obtain ⟨_, O, _⟩ := ins_get I.hok hp
    obtain ⟨od, J, _⟩ := O.look
    obtain ⟨_, O2, _⟩ := ins_get I.hok hq
    obtain ⟨od2, J2, _⟩ := O2.look
    exact iop_K fr I.ok.mod.kin J J2.type sf T oc.at_ oc.fn (wpAny_mono (wpAny_call (run_at (us := [.ref p, .ref q']) (vs := [.ref p, .ref q']) F hr (hx σ) I (.cons rfl (.cons rfl .nil)) (toSp_imp (fun _ _ _ z => z.elim) h))) (fun _ _ z => cmpBack_of z) fun _ _ z => z)
  · rintro ⟨P, al, M, env, k, rs, hw, L⟩
    unfold wAugO at hw
    split at hw
    · rename_i d hd
      obtain ⟨v, h1, h2⟩ := rs.slot _ _ hd
      refine ⟨v, h1, P, al, M, env, _, rs, hw, fun d1 M1 v1 H1 P1 al1 e1 rs1 r1 q => ?_⟩
      split at q
      · rename_i n1 fs1 n2 fs2 v1 v2'
        obtain ⟨hn, q⟩ := q
        obtain ⟨g1, g2⟩ := hn.out
        subst g1 g2
        have r0 := h2.mono e1.pp e1.pre
        obtain ⟨p, dx, xs, rfl, hp⟩ := view_objOf ca rs1.toRS0 r0 v1
        obtain ⟨p2, dy, ys, rfl, hp2⟩ := view_objOf ca rs1.toRS0 r1 v2'
        refine ⟨p, p2, dx, dy, xs, ys, rfl, rfl, hp, hp2, P1, al1, M1, _, _, _, rs1.toRS0.here, .cons r0 (.cons r1 .nil), q, fun d2 M2 v2 H2 P2 al2 e2 rs2 r2 q2 => ?_, fun _ _ _ _ _ _ _ _ _ _ _ _ z => z⟩
        exact L.nx _ _ _ _ _ _ (e1.trans e2) ((rs1.step e2 (rs2.rebase (rs1.base.trans e2))).put i r2) q2
      · exact q.elim
    · exact hw.elim
end
/-- min(i, j) -/
def cMin2 : WCl := fun ds M R => match ds with
  | [.int i, .int j] => R (.int (if j < i then j else i)) M
  | _ => False
theorem cMin2_ok {K : PySem.W.Frag} {B : Bs} : CallD K B (fun xs H Q => ∃ i j, xs = [.int i, .int j] ∧ Q (.int (if j < i then j else i)) H) cMin2 := by
  intro P al M env σ H vs ds R Q rs r h L
  unfold cMin2 at h
  split at h
  · cases r with
    | cons r1 t => cases t with
      | cons r2 t =>
        cases t; cases r1; cases r2
        exact ⟨_, _, rfl, L.here rs (.int _) h⟩
  · exact h.elim
/-- isinstance(e, T), e the error at a, T one of the language's own types -/
def cIsXT (a : Addr) (n : String) (b : Bool) : WCl := fun ds M R => match ds with
  | [.adr a', .ty n'] => Need (a' = a ∧ n' = n) ∧ R (.bl b) M
  | _ => False
theorem cIsXT_ok {K : PySem.W.Frag} {B : Bs} {C a : Addr} {fs : List (Str × D)} {d : Option Addr} {n : String} {b : Bool} (xd : XdOk K B.1 B.2.1 B.2.2 fs d) (ht : PySem.W.kitOne K (.ref C) (.type n) = some b) : CallD K B (rIsX K C a d) (cIsXT a n b) := by
  intro P al M env σ H vs ds R Q rs r h L
  unfold cIsXT at h
  split at h
  · obtain ⟨hb, h⟩ := h
    obtain ⟨hb, hn⟩ := hb.out
    subst hb hn
    cases r with
    | cons r1 t => cases t with
      | cons r2 t =>
        cases t; cases r1; cases r2
        refine ⟨_, _, b, rfl, fun u ru => ru, ht, ?_, L.here rs (.bl _) h⟩
        rcases xd.go rs.base with ⟨h, _⟩ | ⟨dd, gs, h1, _, h3, _⟩
        · exact .inl h
        · exact .inr ⟨dd, gs, h1, h3⟩
  · exact h.elim
/-! ### list(d.items()) -/
theorem cell_keep {K : PySem.W.Frag} {P P' H H' : Hp} {al : List Addr} {m : D} {a : Addr} (c : Cell K P al m a H) (sm : Same P P') (keep : ∀ b o, H b = some o → H' b = some o) (hn : P a = none → P' a = none) : Cell K P' al m a H' := by
  cases m with
  | ptp l => exact ExCell.mono c sm (List.prefix_refl _)
  | lst ds => obtain ⟨h1, xs, h2, h3⟩ := c; exact ⟨hn h1, xs, keep _ _ h2, h3.mono sm (List.prefix_refl _)⟩
  | dct ds => obtain ⟨h1, xs, h2, h3⟩ := c; exact ⟨hn h1, xs, keep _ _ h2, h3.mono sm (List.prefix_refl _)⟩
  | obj n ds => obtain ⟨h1, C, dx, xs, h2, hc, h3⟩ := c; exact ⟨hn h1, C, dx, xs, keep _ _ h2, hc, h3.mono sm (List.prefix_refl _)⟩
  | _ => trivial
theorem key1_rep {K : PySem.W.Frag} {P : Hp} {al : List Addr} (k : Key) : Rep K P al (kD k) (kV k) := by
  cases k <;> first | exact .int _ | exact .str _
def itemsD (ks : List (Key × D)) : List D := ks.map fun p => .tup [kD p.1, p.2]
@[irreducible] def oItems (d : D) (M : Mt) (R : D → Mt → Prop) : Prop := match viewD M d with
  | .dct ks => R (.lst (itemsD ks)) M
  | _ => False
def wItems (we : WE) : WE := fun env M R => we env M fun d M1 => oItems d M1 R
theorem items_rep {K : PySem.W.Frag} {P P' H' : Hp} {al : List Addr} (sm : Same P P') : ∀ {ts : List Addr} {kvs : List (Key × V)} {ks : List (Key × D)}, Paired (fun (t : Addr) (q : Key × V) => H' t = some (.tup [kV q.1, q.2])) ts kvs → (∀ t ∈ ts, P' t = H' t) → RepKs K P al ks kvs → Reps K P' al (itemsD ks) (ts.map V.ref)
  | _, _, [], .nil, _, .nil => .nil
  | _, _, _, .cons (a := t) (l₁ := ts) h p, hp, .cons r rest => by
    refine .cons (.tup (SqT.of (by rw [hp t List.mem_cons_self]; exact h)) (.cons (key1_rep _) (.cons (r.mono sm (List.prefix_refl _)) .nil))) ?_
    exact items_rep sm p (fun t ht => hp t (List.mem_cons_of_mem _ ht)) rest
section
variable {X : Cx} {B : Bs} {e : Expr} {we : WE} {p apos cpos pos : Pos}
theorem d_listItems (hc : X.calm = true) (hg : Gl X "list") (hm : X.mg "list" = none) (hv : bootBuiltins "list" = some (.type "list")) (he : DE B X e we) (hbase : attributeBase e "items" X.env (eval e X.env) = eval e X.env := by rfl) (hline : (apos.endLine == cpos.line) = true := by rfl)
    (hs : starEach [.Call (.Attribute e "items" apos) [] [] cpos] X.env = (false, eval (.Call (.Attribute e "items" apos) [] [] cpos) X.env) :: starEach [] X.env := by rfl) :
    DE B X (.Call (.Name "list" p) [.Call (.Attribute e "items" apos) [] [] cpos] [] pos) (wItems we) := by
  refine (LiI.pe_listItems hc he hg hm hv hbase hline hs).imp fun σ H Q => ?_
  rintro ⟨P, al, M, env, R, rs, hw, L⟩
  refine ⟨P, al, M, env, _, rs, hw, fun d M1 v H1 P1 al1 e1 rs1 r1 q => ?_⟩
  unfold oItems at q
  split at q
  · rename_i ks hk
    obtain ⟨a, xs, rfl, g1, g2⟩ := view_dct rs1.toRS0 r1 hk
    refine ⟨a, xs, rfl, g1, fun H' lp ts keep np nts nin hl hts => ?_⟩
    obtain ⟨P', hP'⟩ : ∃ P' : Hp, P' = fun b => if b = lp ∨ b ∈ ts then H' b else P1 b := ⟨_, rfl⟩
    have free : ∀ b, (b = lp ∨ b ∈ ts) → H1 b = none := fun b hb => hb.elim (fun z => by rw [z]; exact np) (nts b)
    have sm : Same P1 P' := fun b o h => by
      rw [hP']
      show (if b = lp ∨ b ∈ ts then H' b else P1 b) = some o
      by_cases hb : b = lp ∨ b ∈ ts
      · have := free b hb
        rw [rs1.same _ _ h] at this; cases this
      · rw [if_neg hb]; exact h
    have nal : ∀ b, (b = lp ∨ b ∈ ts) → b ∉ al1 := fun b hb m => by
      obtain ⟨o, ho⟩ := rs1.trk b m
      rw [free b hb] at ho; cases ho
    have ext : Ext P1 al1 H1 P' al1 H' := ⟨sm, List.prefix_refl _, fun b o h _ => keep b o h, fun b m n => absurd m n, fun b o h _ hp _ => by
      rw [hP']
      show (if b = lp ∨ b ∈ ts then H' b else P1 b) = none
      by_cases hb : b = lp ∨ b ∈ ts
      · rw [free b hb] at h; cases h
      · rw [if_neg hb]; exact hp⟩
    have r0 : RS0 X.K B P' al1 M1 H' := by
      refine ⟨rs1.base.trans ext, fun b o h => ?_, rs1.len, fun i a m hi hm => ?_, rs1.inj, fun a m => ?_⟩
      · rw [hP'] at h
        have h' : (if b = lp ∨ b ∈ ts then H' b else P1 b) = some o := h
        by_cases hb : b = lp ∨ b ∈ ts
        · rw [if_pos hb] at h'; exact h'
        · rw [if_neg hb] at h'; exact keep _ _ (rs1.same _ _ h')
      · have c := rs1.cell i a m hi hm
        exact cell_keep c sm keep fun hp => by
          rw [hP']
          show (if a = lp ∨ a ∈ ts then H' a else P1 a) = none
          rw [if_neg (fun z => nal a z (List.mem_of_getElem? hi))]; exact hp
      · obtain ⟨o, ho⟩ := rs1.trk a m
        exact ⟨o, keep _ _ ho⟩
    have el : P' lp = H' lp := by rw [hP']; exact if_pos (.inl rfl)
    refine L _ _ _ _ _ _ (e1.trans ext) (rs1.step ext r0) (.lst (by rw [el]; exact hl) (items_rep sm hts (fun t ht => by rw [hP']; exact if_pos (.inr ht)) g2)) q
  · exact q.elim
end
theorem clsIn_of {K : PySem.W.Frag} {C : Addr} {c : Value} {d : Option Addr} {cd : ClassData} {sl : Array (Option Value)} (h : K.lookup C = some ⟨c, d, .cls cd, sl⟩) : PySem.W.clsIn K C = some cd := by
  unfold PySem.W.clsIn; rw [h]
theorem dunder_or : PySem.dunder Operator.BitOr.info.2 = ("__or__" : Str) := by decide +kernel
theorem dunderI_or : dunderI Operator.BitOr.info.2 = ("__ior__" : Str) := by decide +kernel
section
variable {X : Cx} {B : Bs} {CX : CXT} {k : Nat} {f C : Addr} {sp : DSp} {n : Str} {a b e : Expr} {wa wb we : WE} {pos pos' : Pos} {RX : RXe}
theorem d_orO (ca : ClsAt X.K n C) (sf : PySem.W.selfFirst X.K C = true) (oc : OpC X.K C "__or__" f) (F : FnR X.prog X.w X.K X.mg X.base CX k f (toSp X.K sp)) (hr : Room k X.A) (hx : Rz X B CX RX) (ha : DE B X a wa) (hb : DE B X b wb) : DE B X (.BinOp a .BitOr b pos) (wOpO n sp RX wa wb) :=
  d_opO ca sf (by rw [dunder_or]; exact oc) F hr hx ha hb
theorem d_iorO {i : Nat} {x : Str} (ca : ClsAt X.K n C) (sf : PySem.W.selfFirst X.K C = true) (oc : OpC X.K C "__or__" f) (T : NoIop X.K C "__ior__") (F : FnR X.prog X.w X.K X.mg X.base CX k f (toSp X.K sp)) (hr : Room k X.A) (hx : Rz X B CX RXn) (hN : X.N.Nodup) (he : DE B X e we)
    (hi : X.N[i]? = some x := by rfl) (hl : Loc X.env.scope x := by first | exact .inl rfl | exact .inr rfl) (hf : X.fn x = true ∨ X.env.scope.names.lookup x = some .local := by first | exact .inl rfl | exact .inr rfl | assumption) :
    DS B X (.AugAssign (.Name x pos') .BitOr e pos) (wAugO i n sp we) :=
  d_augO ca sf (by rw [dunder_or]; exact oc) (by rw [dunderI_or]; exact T) F hr hx hN he hi hl hf
end
/-! ### -i, xs[::-1] -/
section
variable {X : Cx} {B : Bs} {a e : Expr} {wa we : WE} {pos : Pos}
def wNeg (we : WE) : WE := fun env M R => we env M fun d M1 => match d with
  | .int i => R (.int (-i)) M1
  | _ => False
theorem d_neg (ha : DE B X a wa) : DE B X (.UnaryOp .USub a pos) (wNeg wa) := by
  refine (pe_un un_neg ha).imp fun σ H Q => ?_
  rintro ⟨P, al, M, env, R, rs, hw, L⟩
  refine ⟨P, al, M, env, _, rs, hw, fun d M1 v H1 P1 al1 e1 rs1 r1 q => ?_⟩
  cases d <;> first | exact q.elim | skip
  cases r1
  exact ⟨_, rfl, (L.after e1).here rs1 (.int _) q⟩
@[irreducible] def oRevL (d : D) (M : Mt) (R : D → Mt → Prop) : Prop := match lstD (viewD M d) with
  | some l => R (.lst l.reverse) M
  | none => False
def wRevL (we : WE) : WE := fun env M R => we env M fun d M1 => oRevL d M1 R
theorem Reps.rev {K : PySem.W.Frag} {P : Hp} {al : List Addr} : ∀ {ds : List D} {vs : List V}, Reps K P al ds vs → Reps K P al ds.reverse vs.reverse
  | _, _, .nil => .nil
  | _, _, .cons r t => by rw [List.reverse_cons, List.reverse_cons]; exact (Reps.rev t).append (.cons r .nil)
theorem d_revL {k : Nat} {p1 p2 p3 : Pos} (he : DE B X e we) : DE B X (.Subscript e (.Slice none none (some (.UnaryOp .USub (.Constant (.int 1) k p1) p2)) p3) pos) (wRevL we) := by
  refine (pe_revL he).imp fun σ H Q => ?_
  rintro ⟨P, al, M, env, R, rs, hw, L⟩
  refine ⟨P, al, M, env, _, rs, hw, fun d M1 v H1 P1 al1 e1 rs1 r1 q => ?_⟩
  unfold oRevL at q
  split at q
  · rename_i l hl
    obtain ⟨a, xs, rfl, h1, q1⟩ := view_lstD rs1.toRS0 r1 hl
    exact ⟨a, xs, rfl, h1, fun p hn => (L.after e1).alloc rs1 hn (.lst upd_same (q1.rev.mono (fun b x e => by rw [upd_ne (ne_of_none e (rs1.toRS0.free hn))]; exact e) (List.prefix_refl _))) q⟩
  · exact q.elim
end
end L3

namespace L3
open PySem PySem.Spec PyProof.Rows L2
/-! ### like data are equal -/
theorem shaped_lay {p : PyData} (h : SeqAt.shaped p = true) : p.canLay0 = true := by
  simp only [SeqAt.shaped, Bool.and_eq_true] at h; exact h.1
theorem eqv_same {p : PyData} (h : SeqAt.shaped p = true) : PyData.eqv p p = true := PySem.SeqAt.eqv_refl p (shaped_lay h)
/-- data that can be compared -/
def ShD (d : D) : Prop := ∃ p, toP d = some p ∧ SeqAt.shaped p = true
theorem sh_list {l : List D} {ps : List PyData} (h : toPs l = some ps) (hs : SeqAt.shaped (.list ps) = true) : plainOk l := ⟨ps, h, hs⟩
theorem plain_nil : plainOk [] := ⟨[], rfl, rfl⟩
theorem eq_same {M : Mt} {x y d : D} {f : Bool → Bool} {R : D → Mt → Prop} (hx : viewD M x = d) (hy : viewD M y = d) (hp : ShD d) (k : R (.bl (f true)) M) : oEqB f x y M R := by
  obtain ⟨p, hp, hs⟩ := hp
  have he := eqv_same hs
  unfold oEqB
  rw [hx, hy]
  cases d with
  | tup l =>
    cases l with
    | nil => exact ⟨⟨plain_nil⟩, k⟩
    | cons a r => simp only [hp]; rw [he]; exact ⟨⟨hs⟩, ⟨hs⟩, k⟩
  | lst l =>
    cases l with
    | nil => exact ⟨⟨plain_nil⟩, k⟩
    | cons a r => simp only [hp]; rw [he]; exact ⟨⟨hs⟩, ⟨hs⟩, k⟩
  | rol l => simp only [hp]; rw [he]; exact ⟨⟨hs⟩, ⟨hs⟩, k⟩
  | non => exact k
  | bl b => simp only [decide_true]; exact k
  | int b => simp only [decide_true]; exact k
  | str b => simp only [decide_true]; exact k
  | _ => simp [toP] at hp
/-- a sequence, cut by what holds between -/
theorem seq_cut {A B : WS} {k : DEnds} {env : Ev} {M : Mt} (I : Ev → Mt → Prop) (h1 : ∀ K : Ev → Mt → Prop, (∀ env M, I env M → K env M) → A { k with nx := K } env M) (h2 : ∀ env M, I env M → B k env M) : wSeq A B k env M := h1 _ h2
theorem cut_drop (l : List D) (k : Nat) (h : k ≤ l.length) : L3.cutD l (some (k : Int)) none = l.drop k := by
  unfold L3.cutD
  rw [HT.sIx_none, HT.sIx_nat, Nat.min_eq_left h]
  exact List.take_of_length_le (by rw [List.length_drop]; omega)
/-- drop past the end -/
theorem cut_drop' (l : List D) (k : Nat) : L3.cutD l (some (k : Int)) none = l.drop k := by
  by_cases h : k ≤ l.length
  · exact cut_drop l k h
  · unfold L3.cutD
    rw [HT.sIx_none, HT.sIx_nat, Nat.min_eq_right (by omega), List.drop_eq_nil_of_le (by omega), List.drop_eq_nil_of_le (by omega), List.take_nil]
theorem get_map {α : Type} {f : α → D} {l : List α} {i : Nat} {d : D} (h : (l.map f)[i]? = some d) : ∃ p, l[i]? = some p ∧ d = f p := by
  rw [List.getElem?_map] at h
  cases e : l[i]? with
  | none => rw [e] at h; cases h
  | some p => rw [e] at h; exact ⟨p, rfl, (Option.some.inj h).symm⟩
theorem take_succ_get {α : Type} {l : List α} {i : Nat} {p : α} (h : l[i]? = some p) : l.take (i + 1) = l.take i ++ [p] := by rw [List.take_add_one, h]; rfl
theorem wNil_i {env : Ev} {M : Mt} {R : List D → Mt → Prop} (h : R [] M) : wNil env M R := h
/-- ==, kept closed until its operands are known -/
@[irreducible] def oEqI (f : Bool → Bool) : WO2 := oEqB f
theorem oEqI_ok {K : PySem.W.Frag} {B : Bs} : OpD K B (rEqU K) (oEqI fun b => b) := by unfold oEqI; exact oEq_ok
theorem oNeI_ok {K : PySem.W.Frag} {B : Bs} : OpD K B (rNeU K) (oEqI fun b => !b) := by unfold oEqI; exact oNe_ok
section
variable {M : Mt} {x y : D} {f : Bool → Bool} {R : D → Mt → Prop}
theorem eqI_of (h : oEqB f x y M R) : oEqI f x y M R := by unfold oEqI; exact h
theorem eqI_int {i j : Int} (k : R (.bl (f (decide (i = j)))) M) : oEqI f (.int i) (.int j) M R := eqI_of k
theorem eqI_str {i j : Str} (k : R (.bl (f (decide (i = j)))) M) : oEqI f (.str i) (.str j) M R := eqI_of k
theorem eqI_bl {i j : Bool} (k : R (.bl (f (decide (i = j)))) M) : oEqI f (.bl i) (.bl j) M R := eqI_of k
theorem eqI_0  (k : R (.bl (f true)) M) : oEqI f .non .non M R := eqI_of k
theorem eqI_1 {j : Int} (k : R (.bl (f false)) M) : oEqI f .non (.int j) M R := eqI_of k
theorem eqI_2 {i : Int} (k : R (.bl (f false)) M) : oEqI f (.int i) .non M R := eqI_of k
theorem eqI_3 {j : Bool} (k : R (.bl (f false)) M) : oEqI f .non (.bl j) M R := eqI_of k
theorem eqI_4 {i : Bool} (k : R (.bl (f false)) M) : oEqI f (.bl i) .non M R := eqI_of k
theorem eqI_5 {j : Str} (k : R (.bl (f false)) M) : oEqI f .non (.str j) M R := eqI_of k
theorem eqI_6 {i : Str} (k : R (.bl (f false)) M) : oEqI f (.str i) .non M R := eqI_of k
theorem eqI_7 {i : Int} {j : Str} (k : R (.bl (f false)) M) : oEqI f (.int i) (.str j) M R := eqI_of k
theorem eqI_8 {i : Str} {j : Int} (k : R (.bl (f false)) M) : oEqI f (.str i) (.int j) M R := eqI_of k
theorem eqI_9 {i : Bool} {j : Str} (k : R (.bl (f false)) M) : oEqI f (.bl i) (.str j) M R := eqI_of k
theorem eqI_10 {i : Str} {j : Bool} (k : R (.bl (f false)) M) : oEqI f (.str i) (.bl j) M R := eqI_of k
theorem eqI_lnil {l : List D} (h : viewD M x = .lst l) (hp : Need (plainOk l)) (k : R (.bl (f l.isEmpty)) M) : oEqI f x (.lst []) M R := eqI_of (by
  unfold oEqB; rw [h]; exact ⟨hp, k⟩)
theorem eqI_tnil {l : List D} (h : viewD M x = .tup l) (hp : Need (plainOk l)) (k : R (.bl (f l.isEmpty)) M) : oEqI f x (.tup []) M R := eqI_of (by
  unfold oEqB; rw [h]; exact ⟨hp, k⟩)
theorem eqI_same {d : D} (hx : viewD M x = d) (hy : viewD M y = d) (hp : ShD d) (k : R (.bl (f true)) M) : oEqI f x y M R := eqI_of (eq_same hx hy hp k)
theorem eqI_tups {l m : List D} {ps qs : List PyData} (hx : viewD M x = .tup l) (hy : viewD M y = .tup m) (hp : toPs l = some ps) (hq : toPs m = some qs) (hs : SeqAt.shaped (.tuple ps) = true) (hs' : SeqAt.shaped (.tuple qs) = true) (k : R (.bl (f (PyData.eqvAll ps qs))) M) : oEqI f x y M R := eqI_of (by
  unfold oEqB
  rw [hx, hy]
  cases m with
  | nil =>
    cases hq
    refine ⟨⟨ps, hp, by simpa [SeqAt.shaped, PyData.canLay0, PyData.depth] using hs⟩, ?_⟩
    rw [eqvAll_nil] at k
    have : l.isEmpty = ps.isEmpty := by
      cases l with
      | nil => cases hp; rfl
      | cons a r =>
        unfold toPs at hp
        split at hp
        · cases hp; rfl
        · cases hp
    rw [this]; exact k
  | cons a r =>
    have e1 : toP (.tup l) = some (.tuple ps) := by simp [toP, hp]
    have e2 : toP (.tup (a :: r)) = some (.tuple qs) := by simp [toP, hq]
    simp only [e1, e2]
    have e3 : PyData.eqv (.tuple ps) (.tuple qs) = PyData.eqvAll ps qs := by simp [PyData.eqv]
    rw [e3]
    exact ⟨⟨hs⟩, ⟨hs'⟩, k⟩)
theorem eqI_lsts {l m : List D} {ps qs : List PyData} (hx : viewD M x = .lst l) (hy : viewD M y = .lst m) (hp : toPs l = some ps) (hq : toPs m = some qs) (hs : SeqAt.shaped (.list ps) = true) (hs' : SeqAt.shaped (.list qs) = true) (k : R (.bl (f (PyData.eqvAll ps qs))) M) : oEqI f x y M R := eqI_of (by
  unfold oEqB
  rw [hx, hy]
  cases m with
  | nil =>
    cases hq
    refine ⟨⟨ps, hp, hs⟩, ?_⟩
    rw [eqvAll_nil] at k
    have : l.isEmpty = ps.isEmpty := by
      cases l with
      | nil => cases hp; rfl
      | cons a r =>
        unfold toPs at hp
        split at hp
        · cases hp; rfl
        · cases hp
    rw [this]; exact k
  | cons a r =>
    have e1 : toP (.lst l) = some (.list ps) := by simp [toP, hp]
    have e2 : toP (.lst (a :: r)) = some (.list qs) := by simp [toP, hq]
    simp only [e1, e2]
    have e3 : PyData.eqv (.list ps) (.list qs) = PyData.eqvAll ps qs := by simp [PyData.eqv]
    rw [e3]
    exact ⟨⟨hs⟩, ⟨hs'⟩, k⟩)
end
end L3

/-! ### len, repr, truth of an instance by its own methods -/
namespace L3
open PySem PySem.Spec PyProof.Rows L2
section
variable {X : Cx} {B : Bs} {CX : CXT} {k : Nat} {f C : Addr} {n : Str} {sp : DSp} {P : V → Prop}
/-- a built-in called with an instance, that asks the instance's own method; what comes back is of the form P -/
def rDun (K : PySem.W.Frag) (C : Addr) (sp : DSp) (P : V → Prop) : List V → Hp → VK → Prop := fun vs H Q => ∃ p dx fs, vs = [V.ref p] ∧ H p = some (.ins C dx fs) ∧ toSp K sp [.ref p] H (fun v H' => P v ∧ Q v H') fun _ _ _ => False
theorem pass_no (hx : Rz X B CX RXn) (σ : L2.St) : PassesAt CX X σ (L2.WE (WL X.K B RXn) σ) := hx σ
theorem dun_at {pins : List (Addr × Obj)} {σ : L2.St} {H : Hp} {s : Shared} {p : Addr} {Q : VK} (F : FnR X.prog X.w X.K X.mg X.base CX k f (toSp X.K sp)) (hr : Room (k + 1) X.A) (hx : Rz X B CX RXn) (I : L2.Inv X pins σ H s) (h : toSp X.K sp [.ref p] H Q fun _ _ _ => False) :
    wpAny (model X.prog X.w) X.A.in1 (call (.ref f) [.ref p]) (EP X pins σ Q) X.xe s :=
  wpAny_call (run_in1 (us := [.ref p]) (vs := [.ref p]) F hr (hx σ) I (.cons rfl .nil) (toSp_imp (fun _ _ _ z => z.elim) h))
theorem dun_at0 {pins : List (Addr × Obj)} {σ : L2.St} {H : Hp} {s : Shared} {p : Addr} {Q : VK} (F : FnR X.prog X.w X.K X.mg X.base CX k f (toSp X.K sp)) (hr : Room k X.A) (hx : Rz X B CX RXn) (I : L2.Inv X pins σ H s) (h : toSp X.K sp [.ref p] H Q fun _ _ _ => False) :
    wpAny (model X.prog X.w) X.A (call (.ref f) [.ref p]) (EP X pins σ Q) X.xe s :=
  wpAny_call (run_at (us := [.ref p]) (vs := [.ref p]) F hr (hx σ) I (.cons rfl .nil) (toSp_imp (fun _ _ _ z => z.elim) h))
def PLen (v : V) : Prop := ∃ n : Int, v = .int n ∧ 0 ≤ n ∧ n < 2 ^ 63
def PStr (v : V) : Prop := ∃ s, v = .str s
def PBl (v : V) : Prop := ∃ b, v = .bl b
theorem call_lenO (oc : OpC X.K C "__len__" f) (F : FnR X.prog X.w X.K X.mg X.base CX k f (toSp X.K sp)) (hr : Room (k + 1) X.A) (hx : Rz X B CX RXn) : CallR X (.builtin "len") (rDun X.K C sp PLen) := by
  intro pins s σ H xs us Q I r h
  obtain ⟨p, dx, fs, rfl, hp, h⟩ := h
  obtain ⟨u, rfl, rx⟩ := vals1 r
  cases rx
  obtain ⟨m, fr⟩ := I.fr
  obtain ⟨_, O, _⟩ := ins_get I.hok hp
  obtain ⟨od, J, _⟩ := O.look
  refine PySem.W.len_K fr I.ok.mod.kin J oc.at_ oc.fn (wpAny_mono (dun_at F hr hx I h) (fun r s' z => ?_) fun _ _ z => z)
  obtain ⟨v, H', I', rv, ⟨n, rfl, h0, h1⟩, q⟩ := z
  obtain ⟨t, rfl⟩ := rv
  exact ⟨⟨h0, h1⟩, ⟨.int n, H', I'.tok _, ⟨_, rfl⟩, q⟩⟩
theorem call_reprO (oc : OpC X.K C "__repr__" f) (F : FnR X.prog X.w X.K X.mg X.base CX k f (toSp X.K sp)) (hr : Room (k + 1) X.A) (hx : Rz X B CX RXn) : CallR X (.builtin "repr") (rDun X.K C sp PStr) := by
  intro pins s σ H xs us Q I r h
  obtain ⟨p, dx, fs, rfl, hp, h⟩ := h
  obtain ⟨u, rfl, rx⟩ := vals1 r
  cases rx
  obtain ⟨m, fr⟩ := I.fr
  obtain ⟨_, O, _⟩ := ins_get I.hok hp
  obtain ⟨od, J, _⟩ := O.look
  refine PySem.W.repr_K (by have := hr.in1.units; omega) fr I.ok.mod.kin J oc.at_ oc.fn (wpAny_mono (dun_at F hr hx I h) (fun r s' z => ?_) fun _ _ z => z)
  obtain ⟨v, H', I', rv, ⟨n, rfl⟩, q⟩ := z
  obtain ⟨t, rfl⟩ := rv
  exact ⟨.str n, H', I', ⟨_, rfl⟩, q⟩
/-- the truth of an instance -/
def rTruO (K : PySem.W.Frag) (C : Addr) (sp : DSp) : V → Hp → (Bool → Hp → Prop) → Prop := fun v H Q => ∃ p dx fs, v = V.ref p ∧ H p = some (.ins C dx fs) ∧ toSp K sp [.ref p] H (fun v H' => ∃ b, v = .bl b ∧ Q b H') fun _ _ _ => False
theorem tru_O (oc : OpC X.K C "__bool__" f) (F : FnR X.prog X.w X.K X.mg X.base CX k f (toSp X.K sp)) (hr : Room k X.A) (hx : Rz X B CX RXn) : TruR X (rTruO X.K C sp) := by
  intro pins s σ H x v Q I rx h
  obtain ⟨p, dx, fs, rfl, hp, h⟩ := h
  cases rx
  obtain ⟨m, fr⟩ := I.fr
  obtain ⟨_, O, _⟩ := ins_get I.hok hp
  obtain ⟨od, J, _⟩ := O.look
  refine PySem.W.truthy_K fr I.ok.mod.kin J oc.at_ oc.fn (wpAny_mono (dun_at0 F hr hx I h) (fun r s' z => ?_) fun _ _ z => z)
  obtain ⟨v, H', I', rv, b, rfl, q⟩ := z
  cases rv
  exact ⟨H', I', q⟩
/-! over data -/
def retI (R : D → Mt → Prop) : D → Mt → Prop := fun d M => match d with
  | .int i => Need (0 ≤ i ∧ i < 2 ^ 63) ∧ R (.int i) M
  | _ => False
def retS (R : D → Mt → Prop) : D → Mt → Prop := fun d M => match d with
  | .str i => R (.str i) M
  | _ => False
def retB (R : Bool → Mt → Prop) : D → Mt → Prop := fun d M => match d with
  | .bl i => R i M
  | _ => False
def cDun (n : Str) (sp : DSp) (W : (D → Mt → Prop) → D → Mt → Prop) : WCl := fun ds M R => match ds with
  | [x] => match viewD M x with
    | .obj n1 _ => Need (n1 = n) ∧ sp [x] M (W R) fun _ _ _ => False
    | _ => False
  | _ => False
theorem cDun_ok {K : PySem.W.Frag} {B : Bs} {W : (D → Mt → Prop) → D → Mt → Prop} (ca : ClsAt K n C) (hW : ∀ {P' : Hp} {al' : List Addr} {R : D → Mt → Prop} {d : D} {M : Mt} {v : V}, W R d M → Rep K P' al' d v → P v ∧ R d M) : CallD K B (rDun K C sp P) (cDun n sp W) := by
  intro P0 al M env σ H vs ds R Q rs r h L
  unfold cDun at h
  split at h
  · cases r with
    | cons r1 t =>
      cases t
      split at h
      · rename_i n1 fs v1
        obtain ⟨hn, h⟩ := h
        have h1 := hn.out
        subst h1
        obtain ⟨p, dx, xs, rfl, hp⟩ := view_objOf ca rs.toRS0 r1 v1
        refine ⟨p, dx, xs, rfl, hp, P0, al, M, _, _, _, rs.toRS0.here, .cons r1 .nil, h, fun d M' v H' P' al' e r0 r q => ?_, fun _ _ _ _ _ _ _ _ _ _ _ _ q => q.elim⟩
        obtain ⟨q1, q2⟩ := hW q r
        exact ⟨q1, L _ _ _ _ _ _ e (rs.step e (r0.rebase (rs.base.trans e))) r q2⟩
      · exact h.elim
  · exact h.elim
theorem retI_ok {K : PySem.W.Frag} {P' : Hp} {al' : List Addr} {R : D → Mt → Prop} {d : D} {M : Mt} {v : V} (h : retI R d M) (r : Rep K P' al' d v) : PLen v ∧ R d M := by
  unfold retI at h
  split at h
  · cases r; exact ⟨⟨_, rfl, h.1.out⟩, h.2⟩
  · exact h.elim
theorem retS_ok {K : PySem.W.Frag} {P' : Hp} {al' : List Addr} {R : D → Mt → Prop} {d : D} {M : Mt} {v : V} (h : retS R d M) (r : Rep K P' al' d v) : PStr v ∧ R d M := by
  unfold retS at h
  split at h
  · cases r; exact ⟨⟨_, rfl⟩, h⟩
  · exact h.elim
/-- an instance as a test -/
def wTruO (n : Str) (sp : DSp) (we : WE) : WT := fun env M R => we env M fun x M1 => match viewD M1 x with
  | .obj n1 _ => Need (n1 = n) ∧ sp [x] M1 (retB R) fun _ _ _ => False
  | _ => False
theorem d_truO {e : Expr} {we : WE} (ca : ClsAt X.K n C) (oc : OpC X.K C "__bool__" f) (F : FnR X.prog X.w X.K X.mg X.base CX k f (toSp X.K sp)) (hr : Room k X.A) (hx : Rz X B CX RXn) (h : DE B X e we) (he : ∀ whole, isTrue e X.env whole = (do let v ← whole; standAt e.pos; holding [v] (truthy v)) := by intro _; rfl) : DT B X e (wTruO n sp we) := by
  refine (pt_truthR h (tru_O oc F hr hx) he).imp fun σ H Q => ?_
  rintro ⟨P, al, M, env, R, rs, hw, L⟩
  refine ⟨P, al, M, env, _, rs, hw, fun d M1 v H1 P1 al1 e1 rs1 r1 q => ?_⟩
  split at q
  · rename_i n1 fs v1
    obtain ⟨hn, q⟩ := q
    have h1 := hn.out
    subst h1
    obtain ⟨p, dx, xs, rfl, hp⟩ := view_objOf ca rs1.toRS0 r1 v1
    refine ⟨p, dx, xs, rfl, hp, P1, al1, M1, _, _, _, rs1.toRS0.here, .cons r1 .nil, q, fun d M' v H' P' al' e r0 r q => ?_, fun _ _ _ _ _ _ _ _ _ _ _ _ q => q.elim⟩
    unfold retB at q
    split at q
    · cases r; exact ⟨_, rfl, L _ _ _ _ _ (e1.trans e) (rs1.step e (r0.rebase (rs1.base.trans e))) q⟩
    · exact q.elim
  · exact q.elim
end
end L3


namespace L3
open PySem PySem.Spec PyProof.Rows L2 Builtin
theorem plain_str_new' : plainId "str.__new__" = true := by decide +kernel
section
variable {prog : Program} {w : World} {A : Around} {E : Value → Shared → Prop} {s : Shared} {K : PySem.W.Frag} {x C f : Addr} {h₀ : Heap} {Lc : Addr} {m : Str → Option Value} {ox : Obj} {od : Option Obj}
theorem code_str_new {Q₁ : Value → Shared → Prop} (hu : A.in1.units < cLine) (F : Fr h₀ Lc s.heap m) (X₀ : K.In h₀) (I : PySem.W.InstAt s.heap x ox C od) (hs : PySem.W.findIn K (.ref C) "__str__" = some (some (.ref f))) (hf : PySem.W.isFn K (.ref f) = true)
    (h : wpAny (model prog w) A.in1 (call (.ref f) [.ref x]) (PySem.W.StrBack Q₁) E s) :
    codeAny (model prog w) A (.call (.builtin "str.__new__") ⟨[.type "str", .ref x], []⟩) (wants Q₁ E) s := by
  refine codeAny_of_tree ?_
  show wpAny _ A.in1 (do checkBuiltinCall "str.__new__" ⟨[.type "str", .ref x], []⟩; again (.builtin "str.__new__" ⟨[.type "str", .ref x], []⟩)) _ _ s
  refine wpAny_bind (wpAny_of_eq (PySem.F.newCall_str_1 _) (wpAny_pure ⟨plainId_quiet plain_str_new' _, codeAny_builtin PySem.F.entry_str_new ?_⟩))
  rw [Around.under_plainId plain_str_new' _, str_new_tree]
  refine wpAny_bind (wpAny_pure ?_)
  refine wpAny_bind (wpAny_of_eq isSubtype_str_str ?_)
  refine wpAny_bind ?_
  unfold Str.strOf
  show wpAny _ _ (if false = true then _ else _) _ _ _
  rw [if_neg (by decide)]
  refine wpAny_bind (wpAny_cRoomFor hu ?_)
  refine wpAny_bind (m := callSpecial? (.ref x) (Str.ofString "__str__")) (PySem.W.special_fn (X₀.keeps F.keep) I hs (beq_iff_eq.mp hf) (wpAny_mono h (fun r s' hr => ?_) fun _ _ y => y))
  cases r <;> first | exact hr.elim | skip
  refine wpAny_bind (wpAny_pure ?_)
  exact wpAny_pure (wpAny_pure hr)
theorem obj_init_str {b : Value} {n : Str} {u : Tok} {s₁ : Shared} {R : Result → Shared → Prop} (h : R (.ok (.ret .none)) s₁) : wpAny (model prog w) A.in1 (Builtin.«object.__init__» ⟨[.str n u, b], []⟩)
    (fun fin s' => match fin with | .done f => R (.ok f) s' | .again c' => c'.quiet = true ∧ codeAny (model prog w) A c' R s') (fun e s' => R (.error e) s') s₁ := by
  have hT : s₁.TypeIs (.str n u) "str" := typeIs_str _ _ _
  have hl := PySem.F.called_str.init.lookup
  have hm := PySem.F.called_str.made
  have hne : (some "str.__new__" != some "object.__new__") = true := by decide
  repeat (any_goals (first | assumption | wp_step))
theorem str_K {Q : Value → Shared → Prop} (hu : A.in1.in1.units < cLine) (F : Fr h₀ Lc s.heap m) (X₀ : K.In h₀) (I : PySem.W.InstAt s.heap x ox C od) (hs : PySem.W.findIn K (.ref C) "__str__" = some (some (.ref f))) (hf : PySem.W.isFn K (.ref f) = true)
    (h : wpAny (model prog w) A.in1.in1 (call (.ref f) [.ref x]) (PySem.W.StrBack Q) E s) : wpAny (model prog w) A (call (.type "str") [.ref x]) Q E s := by
  refine callType_codes (Q₁ := fun v s' => PySem.W.StrBack Q v s') PySem.F.called_str (PySem.F.typeCall_str_1 _) PySem.F.entry_object_init (code_str_new hu F X₀ I hs hf (wpAny_mono h (fun r s' hr => ?_) fun _ _ y => y)) fun obj s₁ q => ?_
  · cases r <;> first | exact hr.elim | exact hr
  · cases obj <;> first | exact q.elim | skip
    exact ⟨typeIs_str _ _ _, PySem.F.args_object_init_2 _ _, obj_init_str ⟨rfl, q⟩⟩
end
section
variable {X : Cx} {B : Bs} {CX : CXT} {k : Nat} {f C : Addr} {n : Str} {sp : DSp} {P : V → Prop}
theorem call_strO (oc : OpC X.K C "__str__" f) (F : FnR X.prog X.w X.K X.mg X.base CX k f (toSp X.K sp)) (hr : Room (k + 2) X.A) (hx : Rz X B CX RXn) : CallR X (.type "str") (rDun X.K C sp PStr) := by
  intro pins s σ H xs us Q I r h
  obtain ⟨p, dx, fs, rfl, hp, h⟩ := h
  obtain ⟨u, rfl, rx⟩ := vals1 r
  cases rx
  obtain ⟨m, fr⟩ := I.fr
  obtain ⟨_, O, _⟩ := ins_get I.hok hp
  obtain ⟨od, J, _⟩ := O.look
  have hr' : Room (k + 1) X.A.in1 := hr.in1
  have run := codeAny_mono (F X.A.in1.in1 X.stack s H [.ref p] [.ref p] (fun v H' => PStr v ∧ Q v H') (L2.WE (WL X.K B RXn) σ) hr'.in1 I.env0.in1.in1 (.cons rfl .nil) (toSp_imp (fun _ _ _ z => z.elim) h)) (R' := fun r s' => match r with
      | .ok (.ret v) => EP X pins σ (fun v H' => PStr v ∧ Q v H') v s'
      | .ok _ => False
      | .error e => X.xe e s') fun r s' hq => by
    match r, hq with
    | .error e, hq => exact hx σ pins H s e s' I hq
    | .ok (.ret u), hq => exact I.after hq
    | .ok .next, hq => exact hq.elim
    | .ok .brk, hq => exact hq.elim
    | .ok .cont, hq => exact hq.elim
  refine str_K (by have := hr'.in1.units; omega) fr I.ok.mod.kin J oc.at_ oc.fn (wpAny_mono (wpAny_call run) (fun r s' z => ?_) fun _ _ z => z)
  obtain ⟨v, H', I', rv, ⟨n, rfl⟩, q⟩ := z
  obtain ⟨t, rfl⟩ := rv
  exact ⟨.str n, H', I', ⟨_, rfl⟩, q⟩
end
end L3
namespace L3
open PySem PySem.Spec PyProof.Rows L2 Builtin
section
variable {prog : Program} {w : World} {A : Around} {E : Value → Shared → Prop} {s : Shared} {K : PySem.W.Frag} {x C f : Addr} {h₀ : Heap} {Lc : Addr} {m : Str → Option Value} {ox : Obj} {od : Option Obj} {b tb : Value}
theorem ifBound_objNe {M : Model} {args : List Value} {Q : Option Value → Shared → Prop} (X : K.In s.heap) (I : PySem.W.InstAt s.heap x ox C od) (hs : PySem.W.findIn K (.ref C) "__ne__" = some (some (.builtin "object.__ne__")))
    (h : wpAny M A (call (.builtin "object.__ne__") (.ref x :: args)) (fun v => Q (some v)) E s) : wpAny M A (callSpecialIfBound? (.ref x) "__ne__" args) Q E s := by
  simp only [callSpecialIfBound?, bindSpecialIfBound?]
  refine wpAny_holding (wpAny_bind (wpAny_bind (wpAny_bind (I.type.here ((PySem.W.looks_findIn X hs).here ?_)))))
  refine wpAny_bind (wpAny_askSetting (wpAny_ite ?_))
  have fin : wpAny M A (call (.builtin "object.__ne__") ([.ref x] ++ args) >>= fun v => pure (some v)) Q E s := wpAny_bind (wpAny_mono h (fun v s' h' => wpAny_pure h') fun _ _ h' => h')
  split
  · exact wpAny_bind (wpAny_of_eq (PySem.F.cmp_object.ne.bind _) (wpAny_pure (by exact fin)))
  · exact wpAny_tryCatch (wpAny_bind (wpAny_of_eq (PySem.F.cmp_object.ne.bind _) (wpAny_pure (by exact fin))))
def NotBack (Q : Value → Shared → Prop) (v : Value) (s' : Shared) : Prop := match v with
  | .bool b => Q (.bool (!b)) s'
  | _ => False
theorem objNe_entry {Q : Fin → Shared → Prop} (hu : A.units < cLine) (X : K.In s.heap) (I : PySem.W.InstAt s.heap x ox C od) (hs : PySem.W.findIn K (.ref C) "__eq__" = some (some (.ref f))) (hf : PySem.W.isFn K (.ref f) = true)
    (h : wpAny (model prog w) A (call (.ref f) [.ref x, b]) (NotBack fun v s' => Q (.done (.ret v)) s') E s) : wpAny (model prog w) A (Builtin.«object.__ne__» ⟨[.ref x, b], []⟩) Q E s := by
  unfold Builtin.«object.__ne__»
  repeat (first
    | with_reducible refine wpAny_cRoomFor hu ?_
    | (refine wpAny_bind (m := callSpecialIfBound? (.ref x) (Str.ofString "__eq__") [b])
        (PySem.W.ifBound_K X I hs hf (wpAny_mono h (fun r s' hr => by
          cases r <;> first | exact hr.elim | skip
          have hq := hr
          repeat (first | exact hq | exact wpAny_pure hq | exact wpAny_truthy_bool hq | (refine wpAny_bind (m := truthy (.bool _)) (wpAny_truthy_bool ?_)) | wp_step)) fun _ _ e => e)))
    | wp_step)
end
end L3
namespace L3
open PySem PySem.Spec PyProof.Rows L2 Builtin
section
variable {prog : Program} {w : World} {A : Around} {E : Value → Shared → Prop} {s : Shared} {K : PySem.W.Frag} {x C f : Addr} {h₀ : Heap} {Lc : Addr} {m : Str → Option Value} {ox : Obj} {od : Option Obj} {b tb : Value}
/-- what != asks of an own class without __ne__ -/
structure NeC (K : PySem.W.Frag) (C : Addr) : Prop where
  ne : PySem.W.findIn K (.ref C) "__ne__" = some (some (.builtin "object.__ne__"))
  ob : PySem.W.mroIn K C (.type "object") = some true
theorem ne_K {Q : Value → Shared → Prop} (hu : A.units < cLine) (hu1 : A.in1.units < cLine) (F : Fr h₀ Lc s.heap m) (X₀ : K.In h₀) (I : PySem.W.InstAt s.heap x ox C od) (hb : PySem.W.Looks (model prog w) s.heap (typeOf b) tb) (hn : PySem.W.notFirst K C tb = true) (N : NeC K C)
    (hs : PySem.W.findIn K (.ref C) "__eq__" = some (some (.ref f))) (hf : PySem.W.isFn K (.ref f) = true)
    (h : wpAny (model prog w) A.in1 (call (.ref f) [.ref x, b]) (NotBack Q) E s) : wpAny (model prog w) A (richCompare .NotEq (.ref x) b) Q E s := by
  have X := X₀.keeps F.keep
  have one : wpAny (model prog w) A (tryCompare (.ref x) "__ne__" b) (fun r s' => ∃ v, r = some v ∧ Q v s') E s := by
    unfold tryCompare
    refine wpAny_bind (ifBound_objNe X I N.ne (wpAny_mono (Q := fun v s' => (∃ k, v = .bool k) ∧ Q v s') ?_ (fun v s' hv => ?_) fun _ _ e => e))
    · refine wpAny_call (codeAny_call_builtin PySem.F.cmp_object.ne.plain PySem.F.cmpEntry_ne (PySem.W.check_slot PySem.F.cmpKind_ne PySem.F.cmpSplit_ne (I.type.andThen (PySem.W.looks_mroIn X N.ob)) (PySem.F.cmpArgs_ne _ _) (objNe_entry hu1 X I hs hf (wpAny_mono h (fun v s' hv => ?_) fun _ _ e => e))))
      cases v <;> first | exact hv.elim | exact ⟨⟨_, rfl⟩, hv⟩
    · obtain ⟨⟨k, rfl⟩, hq⟩ := hv
      exact wpAny_pure ⟨_, rfl, hq⟩
  unfold richCompare
  simp only [oneThing_ref]
  refine wpAny_holding (wpAny_bind (wpAny_cRoomFor hu ?_))
  refine wpAny_bind (I.type.here (wpAny_bind (hb.here ?_)))
  split
  · rename_i q
    have e : PySem.W.subIn K tb (.ref C) = some false := by
      rcases Bool.or_eq_true_iff.mp hn with e | e
      · rw [beq_iff_eq.mp e] at q; simp at q
      · exact beq_iff_eq.mp e
    refine wpAny_bind ((PySem.W.looks_subIn X e).here ?_)
    simp only [Bool.false_eq_true, if_false]
    refine wpAny_bind (wpAny_mono one (fun r s' z => ?_) fun _ _ e => e)
    obtain ⟨v, rfl, hq⟩ := z
    exact wpAny_pure hq
  · refine wpAny_bind (wpAny_pure ?_)
    simp only [Bool.false_eq_true, if_false]
    refine wpAny_bind (wpAny_mono one (fun r s' z => ?_) fun _ _ e => e)
    obtain ⟨v, rfl, hq⟩ := z
    exact wpAny_pure hq
end
theorem sub_kind {K : PySem.W.Frag} {C : Addr} : ∀ T ∈ isBs, PySem.W.subIn K (.type T) (.ref C) = some false := by
  intro T h
  simp only [isBs, List.mem_cons, List.not_mem_nil, or_false] at h
  rcases h with rfl | rfl | rfl | rfl | rfl | rfl | rfl
  · show (fastBuiltinMro "NoneType").map (·.contains (.ref C)) = some false
    rw [show fastBuiltinMro "NoneType" = some [.type "NoneType", .type "object"] from by decide +kernel]; simp
  · show (fastBuiltinMro "bool").map (·.contains (.ref C)) = some false
    rw [show fastBuiltinMro "bool" = some [.type "bool", .type "int", .type "object"] from by decide +kernel]; simp
  · show (fastBuiltinMro "int").map (·.contains (.ref C)) = some false
    rw [show fastBuiltinMro "int" = some [.type "int", .type "object"] from by decide +kernel]; simp
  · show (fastBuiltinMro "str").map (·.contains (.ref C)) = some false
    rw [show fastBuiltinMro "str" = some [.type "str", .type "object"] from by decide +kernel]; simp
  · show (fastBuiltinMro "tuple").map (·.contains (.ref C)) = some false
    rw [show fastBuiltinMro "tuple" = some [.type "tuple", .type "object"] from by decide +kernel]; simp
  · show (fastBuiltinMro "list").map (·.contains (.ref C)) = some false
    rw [show fastBuiltinMro "list" = some [.type "list", .type "object"] from by decide +kernel]; simp
  · show (fastBuiltinMro "dict").map (·.contains (.ref C)) = some false
    rw [show fastBuiltinMro "dict" = some [.type "dict", .type "object"] from by decide +kernel]; simp
section
variable {X : Cx} {B : Bs} {CX : CXT} {k : Nat} {f C : Addr} {n : Str} {sp : DSp}
/-- an instance == any value -/
def rEqO (K : PySem.W.Frag) (C : Addr) (sp : DSp) (g : Bool → Bool) : R2 := fun x y H Q => ∃ p dx fs, x = V.ref p ∧ H p = some (.ins C dx fs) ∧ ((∃ q dy gs, y = V.ref q ∧ H q = some (.ins C dy gs)) ∨ ∃ T ∈ isBs, TyX K H y (.type T)) ∧
  toSp K sp [.ref p, y] H (fun v H' => ∃ b, v = .bl b ∧ Q (.bl (g b)) H') fun _ _ _ => False
theorem kind_at {pins : List (Addr × Obj)} {σ : L2.St} {H : Hp} {s : Shared} {y : V} {u : Value} (I : L2.Inv X pins σ H s) (ry : RelV y u) (h : (∃ q dy gs, y = V.ref q ∧ H q = some (.ins C dy gs)) ∨ ∃ T ∈ isBs, TyX X.K H y (.type T)) :
    ∃ tb, PySem.W.Looks (model X.prog X.w) s.heap (typeOf u) tb ∧ PySem.W.notFirst X.K C tb = true := by
  rcases h with ⟨q, dy, gs, rfl, hq⟩ | ⟨T, hT, ty⟩
  · cases ry
    obtain ⟨_, O2, _⟩ := ins_get I.hok hq
    obtain ⟨od2, J2, _⟩ := O2.look
    exact ⟨_, J2.type, by simp [PySem.W.notFirst]⟩
  · obtain ⟨P, kx, p, _⟩ := kit_of I ry ty
    refine ⟨_, kx.ty _ _ I.kIn p, ?_⟩
    unfold PySem.W.notFirst
    rw [sub_kind T hT]; simp
theorem op_eqO (oc : OpC X.K C "__eq__" f) (F : FnR X.prog X.w X.K X.mg X.base CX k f (toSp X.K sp)) (hr : Room k X.A) (hx : Rz X B CX RXn) : OpR X (compareOp .Eq) (rEqO X.K C sp id) := by
  intro pins s σ H x y v u Q I rx ry h
  obtain ⟨p, dx, fs, rfl, hp, hy, h⟩ := h
  cases rx
  obtain ⟨m, fr⟩ := I.fr
  obtain ⟨_, O, _⟩ := ins_get I.hok hp
  obtain ⟨od, J, _⟩ := O.look
  obtain ⟨tb, hb, hn⟩ := kind_at I ry hy
  show wpAny (model X.prog X.w) X.A (richCompare .Eq (.ref p) u) (EP X pins σ Q) X.xe s
  refine PySem.W.cmp_K (by have := hr.units; omega) fr I.ok.mod.kin J hb hn oc.at_ oc.fn (wpAny_mono (wpAny_call (run_at (us := [.ref p, u]) (vs := [.ref p, y]) F hr (hx σ) I (.cons rfl (.cons ry .nil)) (toSp_imp (fun _ _ _ z => z.elim) h))) (fun r s' z => ?_) fun _ _ z => z)
  obtain ⟨v, H', I', rv, b, rfl, q⟩ := z
  cases rv
  exact ⟨.bl b, H', I', rfl, q⟩
theorem op_neO (oc : OpC X.K C "__eq__" f) (N : NeC X.K C) (F : FnR X.prog X.w X.K X.mg X.base CX k f (toSp X.K sp)) (hr : Room (k + 1) X.A) (hx : Rz X B CX RXn) : OpR X (compareOp .NotEq) (rEqO X.K C sp fun b => !b) := by
  intro pins s σ H x y v u Q I rx ry h
  obtain ⟨p, dx, fs, rfl, hp, hy, h⟩ := h
  cases rx
  obtain ⟨m, fr⟩ := I.fr
  obtain ⟨_, O, _⟩ := ins_get I.hok hp
  obtain ⟨od, J, _⟩ := O.look
  obtain ⟨tb, hb, hn⟩ := kind_at I ry hy
  show wpAny (model X.prog X.w) X.A (richCompare .NotEq (.ref p) u) (EP X pins σ Q) X.xe s
  refine ne_K (by have := hr.units; omega) (by have := hr.in1.units; omega) fr I.ok.mod.kin J hb hn N oc.at_ oc.fn (wpAny_mono (wpAny_call (run_in1 (us := [.ref p, u]) (vs := [.ref p, y]) F hr (hx σ) I (.cons rfl (.cons ry .nil)) (toSp_imp (fun _ _ _ z => z.elim) h))) (fun r s' z => ?_) fun _ _ z => z)
  obtain ⟨v, H', I', rv, b, rfl, q⟩ := z
  cases rv
  exact ⟨.bl (!b), H', I', rfl, q⟩
/-- == over data: the instance's own method, or what == is of data -/
@[irreducible] def oEqO (n : Str) (sp : DSp) (g : Bool → Bool) : WO2 := fun x y M R => match viewD M x with
  | .obj n1 _ => Need (n1 = n) ∧ (match viewD M y with
    | .obj n2 _ => Need (n2 = n)
    | _ => (tyN M y).isSome = true) ∧ sp [x, y] M (retB fun b M' => R (.bl (g b)) M') fun _ _ _ => False
  | _ => oEqI g x y M R
theorem oEqO_ok {K : PySem.W.Frag} {g : Bool → Bool} {r : R2} (ca : ClsAt K n C) (h0 : OpD K B r (oEqI g)) : OpD K B (fun x y H Q => rEqO K C sp g x y H Q ∨ r x y H Q) (oEqO n sp g) := by
  intro P al M env σ H x y dx dy R Q rs r1 r2 h L
  unfold oEqO at h
  split at h
  · rename_i n1 fs v1
    obtain ⟨hn, hk, h⟩ := h
    have h1 := hn.out
    subst h1
    obtain ⟨p, dx', xs, rfl, hp⟩ := view_objOf ca rs.toRS0 r1 v1
    refine .inl ⟨p, dx', xs, rfl, hp, ?_, P, al, M, _, _, _, rs.toRS0.here, .cons r1 (.cons r2 .nil), h, fun d M' v H' P' al' e r0 r q => ?_, fun _ _ _ _ _ _ _ _ _ _ _ _ q => q.elim⟩
    · split at hk
      · rename_i n2 gs v2
        have h2 := hk.out
        subst h2
        obtain ⟨p2, dx2, xs2, rfl, hp2⟩ := view_objOf ca rs.toRS0 r2 v2
        exact .inl ⟨p2, dx2, xs2, rfl, hp2⟩
      · obtain ⟨T, hT⟩ := Option.isSome_iff_exists.mp hk
        obtain ⟨m, ty⟩ := tyN_ok rs.toRS0 r2 hT
        exact .inr ⟨T, m, ty⟩
    · unfold retB at q
      split at q
      · cases r; exact ⟨_, rfl, L _ _ _ _ _ _ e (rs.step e (r0.rebase (rs.base.trans e))) (.bl _) q⟩
      · exact q.elim
  · exact .inr (h0 P al M env σ H x y dx dy R Q rs r1 r2 h L)
theorem eqO_obj {g : Bool → Bool} {M : Mt} {x y : D} {R : D → Mt → Prop} {fs gs : List (Str × D)} (hx : viewD M x = .obj n fs) (hy : viewD M y = .obj n gs) (h : sp [x, y] M (retB fun b M' => R (.bl (g b)) M') fun _ _ _ => False) : oEqO n sp g x y M R := by
  unfold oEqO; rw [hx, hy]; exact ⟨⟨rfl⟩, ⟨rfl⟩, h⟩
theorem eqO_any {g : Bool → Bool} {M : Mt} {x y : D} {R : D → Mt → Prop} {fs : List (Str × D)} (hx : viewD M x = .obj n fs) (hy : (tyN M y).isSome = true) (h : sp [x, y] M (retB fun b M' => R (.bl (g b)) M') fun _ _ _ => False) : oEqO n sp g x y M R := by
  unfold oEqO; rw [hx]
  refine ⟨⟨rfl⟩, ?_, h⟩
  split
  · rename_i n2 gs v2
    unfold tyN at hy
    rw [v2] at hy
    cases hy
  · exact hy
theorem eqO_data {g : Bool → Bool} {M : Mt} {x y : D} {R : D → Mt → Prop} (hx : ∀ n fs, viewD M x ≠ .obj n fs) (h : oEqI g x y M R) : oEqO n sp g x y M R := by
  unfold oEqO
  split
  · rename_i e; exact absurd e (hx _ _)
  · exact h
end
end L3

/-! ### bool of an instance; isinstance of own classes; f-strings; join; str -/
namespace L3
open PySem PySem.Spec PyProof.Rows L2 Builtin
section
variable {prog : Program} {w : World} {A : Around} {E : Value → Shared → Prop} {s : Shared} {K : PySem.W.Frag} {x C f : Addr} {h₀ : Heap} {Lc : Addr} {m : Str → Option Value} {ox : Obj} {od : Option Obj}
theorem plain_bool_new' : plainId "bool.__new__" = true := by decide +kernel
theorem code_bool_new {Q₁ : Value → Shared → Prop} (F : Fr h₀ Lc s.heap m) (X₀ : K.In h₀) (I : PySem.W.InstAt s.heap x ox C od) (hs : PySem.W.findIn K (.ref C) "__bool__" = some (some (.ref f))) (hf : PySem.W.isFn K (.ref f) = true)
    (h : wpAny (model prog w) A.in1 (call (.ref f) [.ref x]) (PySem.W.BoolBack fun b => Q₁ (.bool b)) E s) :
    codeAny (model prog w) A (.call (.builtin "bool.__new__") ⟨[.type "bool", .ref x], []⟩) (wants Q₁ E) s := by
  refine codeAny_of_tree ?_
  show wpAny _ A.in1 (do checkBuiltinCall "bool.__new__" ⟨[.type "bool", .ref x], []⟩; again (.builtin "bool.__new__" ⟨[.type "bool", .ref x], []⟩)) _ _ s
  refine wpAny_bind (wpAny_of_eq (PySem.F.newCall_bool_1 _) (wpAny_pure ⟨plainId_quiet plain_bool_new' _, codeAny_builtin PySem.F.entry_bool_new ?_⟩))
  rw [Around.under_plainId plain_bool_new' _]
  have hsub := PySem.F.conv_sub_bool
  have tru : ∀ {Q : Bool → Shared → Prop}, (∀ b s', Q₁ (.bool b) s' → Q b s') → wpAny (model prog w) A.in1 (truthy (.ref x)) Q E s := fun hq =>
    PySem.W.truthy_K F X₀ I hs hf (wpAny_mono h (fun r s' hr => by
      cases r <;> first | exact hr.elim | exact hq _ _ hr) fun _ _ y => y)
  unfold Builtin.«bool.__new__»
  repeat (first
    | (refine wpAny_bind (m := truthy (.ref x)) (tru fun b s' hr => ?_))
    | assumption
    | wp_step)
  all_goals exact hr
theorem obj_init_bool {a b : Value} {n : Bool} {s₁ : Shared} {R : Result → Shared → Prop} (h : R (.ok (.ret .none)) s₁) : wpAny (model prog w) A.in1 (Builtin.«object.__init__» ⟨[.bool n, b], []⟩)
    (fun fin s' => match fin with | .done f => R (.ok f) s' | .again c' => c'.quiet = true ∧ codeAny (model prog w) A c' R s') (fun e s' => R (.error e) s') s₁ := by
  have hT : s₁.TypeIs (.bool n) "bool" := PySem.typeIs_bool _ _
  have hl := PySem.F.called_bool.init.lookup
  have hm := PySem.F.called_bool.made
  have hne : (some "bool.__new__" != some "object.__new__") = true := by decide
  repeat (any_goals (first | assumption | wp_step))
theorem bool_K {Q : Value → Shared → Prop} (F : Fr h₀ Lc s.heap m) (X₀ : K.In h₀) (I : PySem.W.InstAt s.heap x ox C od) (hs : PySem.W.findIn K (.ref C) "__bool__" = some (some (.ref f))) (hf : PySem.W.isFn K (.ref f) = true)
    (h : wpAny (model prog w) A.in1.in1 (call (.ref f) [.ref x]) (PySem.W.BoolBack fun b => Q (.bool b)) E s) : wpAny (model prog w) A (call (.type "bool") [.ref x]) Q E s := by
  refine callType_codes (Q₁ := fun v s' => (∃ b, v = .bool b) ∧ Q v s') PySem.F.called_bool (PySem.F.typeCall_bool_1 _) PySem.F.entry_object_init (code_bool_new F X₀ I hs hf (wpAny_mono h (fun r s' hr => ?_) fun _ _ y => y)) fun obj s₁ q => ?_
  · cases r <;> first | exact hr.elim | exact ⟨⟨_, rfl⟩, hr⟩
  · obtain ⟨⟨b, rfl⟩, q⟩ := q
    exact ⟨PySem.typeIs_bool _ _, PySem.F.args_object_init_2 _ _, obj_init_bool (a := .none) ⟨rfl, q⟩⟩
end
section
variable {X : Cx} {B : Bs} {CX : CXT} {k : Nat} {f C : Addr} {n : Str} {sp : DSp} {P : V → Prop}
theorem run_in2 {pins : List (Addr × Obj)} {σ : L2.St} {H : Hp} {s : Shared} {p : Addr} {Q : VK} (F : FnR X.prog X.w X.K X.mg X.base CX k f (toSp X.K sp)) (hr : Room (k + 2) X.A) (hx : Rz X B CX RXn) (I : L2.Inv X pins σ H s) (h : toSp X.K sp [.ref p] H Q fun _ _ _ => False) :
    wpAny (model X.prog X.w) X.A.in1.in1 (call (.ref f) [.ref p]) (EP X pins σ Q) X.xe s := by
  have hr' : Room (k + 1) X.A.in1 := hr.in1
  have run := codeAny_mono (F X.A.in1.in1 X.stack s H [.ref p] [.ref p] Q (L2.WE (WL X.K B RXn) σ) hr'.in1 I.env0.in1.in1 (.cons rfl .nil) (toSp_imp (fun _ _ _ z => z.elim) h)) (R' := fun r s' => match r with
      | .ok (.ret v) => EP X pins σ Q v s'
      | .ok _ => False
      | .error e => X.xe e s') fun r s' hq => by
    match r, hq with
    | .error e, hq => exact hx σ pins H s e s' I hq
    | .ok (.ret u), hq => exact I.after hq
    | .ok .next, hq => exact hq.elim
    | .ok .brk, hq => exact hq.elim
    | .ok .cont, hq => exact hq.elim
  exact wpAny_call run
theorem call_boolO (oc : OpC X.K C "__bool__" f) (F : FnR X.prog X.w X.K X.mg X.base CX k f (toSp X.K sp)) (hr : Room (k + 2) X.A) (hx : Rz X B CX RXn) : CallR X (.type "bool") (rDun X.K C sp PBl) := by
  intro pins s σ H xs us Q I r h
  obtain ⟨p, dx, fs, rfl, hp, h⟩ := h
  obtain ⟨u, rfl, rx⟩ := vals1 r
  cases rx
  obtain ⟨m, fr⟩ := I.fr
  obtain ⟨_, O, _⟩ := ins_get I.hok hp
  obtain ⟨od, J, _⟩ := O.look
  refine bool_K fr I.ok.mod.kin J oc.at_ oc.fn (wpAny_mono (run_in2 F hr hx I h) (fun r s' z => ?_) fun _ _ z => z)
  obtain ⟨v, H', I', rv, ⟨b, rfl⟩, q⟩ := z
  cases rv
  exact ⟨.bl b, H', I', rfl, q⟩
def retL (R : D → Mt → Prop) : D → Mt → Prop := fun d M => match d with
  | .bl i => R (.bl i) M
  | _ => False
theorem retL_ok {K : PySem.W.Frag} {P' : Hp} {al' : List Addr} {R : D → Mt → Prop} {d : D} {M : Mt} {v : V} (h : retL R d M) (r : Rep K P' al' d v) : PBl v ∧ R d M := by
  unfold retL at h
  split at h
  · cases r; exact ⟨⟨_, rfl⟩, h⟩
  · exact h.elim
end
/-! isinstance(x, C) -/
structure InsF (K : PySem.W.Frag) (C : Addr) : Prop where
  cl : Cls K C
  ha : PySem.W.findIn K (.ref C) "__class__" = some (some (.builtin "object.__class__"))
  hn : PySem.W.specialIn K (.builtin "object.__class__") "__get__" = some (some (.builtin "getset_descriptor.__get__"))
  htk : PySem.W.takesIn K (.builtin "object.__class__") = some true
  hm : PySem.W.mroIn K C (.type "object") = some true
/-- no built-in is an instance of the class -/
def IscC (K : PySem.W.Frag) (C : Addr) : Prop := PySem.W.kitOne K (.type "NoneType") (.ref C) = some false
theorem IscC.no {K : PySem.W.Frag} {C : Addr} (h : IscC K C) {T : String} (hT : T ∈ isBs) : PySem.W.kitOne K (.type T) (.ref C) = some false := by
  have e : ∀ T, PySem.W.kitOne K (.type T) (.ref C) = if ((PySem.W.clsIn K C).isSome && PySem.W.typeIn K (.ref C) == some (.type "type")) = true then PySem.W.subIn K (.type T) (.ref C) else none := fun T => by
    have : (Value.type T == Value.ref C) = false := rfl
    unfold PySem.W.kitOne
    rw [this]; rfl
  unfold IscC at h
  rw [e] at h ⊢
  split at h
  · rename_i c
    rw [if_pos c]; exact sub_kind T hT
  · cases h
inductive TabI (K : PySem.W.Frag) (Cc : Addr) : List (Str × Bool) → Prop
  | nil : TabI K Cc []
  | cons {n : Str} {r : Bool} {C : Addr} {tb : List (Str × Bool)} : ClsAt K n C → InsF K C → PySem.W.kitOne K (.ref C) (.ref Cc) = some r → TabI K Cc tb → TabI K Cc ((n, r) :: tb)
theorem TabI.look {K : PySem.W.Frag} {Cc : Addr} {tb : List (Str × Bool)} (t : TabI K Cc tb) : ∀ n r C, tb.lookup n = some r → ClsAt K n C → InsF K C ∧ PySem.W.kitOne K (.ref C) (.ref Cc) = some r := by
  induction t with
  | nil => intro n r C h; cases h
  | @cons n' r' C' tb ca i k t ih =>
    intro n r C h hc
    rw [List.lookup_cons] at h
    split at h
    · rename_i e
      obtain rfl : n = n' := by simpa using e
      cases h
      obtain rfl := ca.one hc
      exact ⟨i, k⟩
    · exact ih n r C h hc
@[irreducible] def cIsO (tb : List (Str × Bool)) (c : Str) : WCl := fun ds M R => match ds with
  | [x, .cls c'] => Need (c' = c) ∧ (match viewD M x with
    | .obj n1 _ => match tb.lookup n1 with
      | some r => R (.bl r) M
      | none => False
    | _ => (tyN M x).isSome = true ∧ R (.bl false) M)
  | _ => False
theorem cIsO_ok {K : PySem.W.Frag} {B : Bs} {Cc : Addr} {c : Str} {tb : List (Str × Bool)} (ca : ClsAt K c Cc) (no : IscC K Cc) (t : TabI K Cc tb) : CallD K B (rIsi K) (cIsO tb c) := by
  intro P al M env σ H vs ds R Q rs r h L
  unfold cIsO at h
  split at h
  · rename_i x c'
    obtain ⟨hc, h⟩ := h
    have hc := hc.out
    subst hc
    cases r with
    | cons r1 t1 => cases t1 with
      | cons r2 t2 =>
        cases t2; cases r2
        rename_i C2 c2
        obtain rfl := ca.one c2
        split at h
        · rename_i n1 fs v1
          split at h
          · rename_i r0 hl
            obtain ⟨a, C', dx, xs, rfl, ha, hcl, _⟩ := view_obj rs.toRS0 r1 v1
            obtain ⟨i, kk⟩ := t.look _ _ _ hl hcl
            exact ⟨_, _, _, _, _, rfl, .own _, .base (.ins ha i.cl i.ha i.hn i.htk i.hm), kk, L.here rs (.bl _) h⟩
          · exact h.elim
        · obtain ⟨h1, h2⟩ := h
          obtain ⟨T, hT⟩ := Option.isSome_iff_exists.mp h1
          obtain ⟨m, ty⟩ := tyN_ok rs.toRS0 r1 hT
          exact ⟨_, _, _, _, _, rfl, .own _, ty, no.no m, L.here rs (.bl _) h2⟩
  · exact h.elim
theorem isO_obj {n c : Str} {tb : List (Str × Bool)} {x : D} {fs : List (Str × D)} {b : Bool} {M : Mt} {R : D → Mt → Prop} (hx : viewD M x = .obj n fs) (hl : tb.lookup n = some b) (k : R (.bl b) M) : cIsO tb c [x, .cls c] M R := by
  unfold cIsO
  refine ⟨⟨rfl⟩, ?_⟩
  simp only [hx, hl]; exact k
theorem isO_any {c : Str} {tb : List (Str × Bool)} {x : D} {M : Mt} {R : D → Mt → Prop} (ht : (tyN M x).isSome = true) (k : R (.bl false) M) : cIsO tb c [x, .cls c] M R := by
  unfold cIsO
  refine ⟨⟨rfl⟩, ?_⟩
  split
  · rename_i n1 fs v
    unfold tyN at ht
    rw [v] at ht
    cases ht
  · exact ⟨ht, k⟩
/-! f-strings -/
section
variable {X : Cx} {B : Bs} {e o : Expr} {we wo : WE} {pos apos : Pos}
def wFmt (we : WE) : WE := fun env M R => we env M fun d M1 => match viewD M1 d with
  | .str s => Need (s.length ≤ sizeLine) ∧ R (.str s) M1
  | .int i => Need (i.natAbs.log2 < 1920) ∧ R (.str (toString i)) M1
  | _ => False
theorem d_fmt (h : DE B X e we) : DE B X (.FormattedValue e (-1) none pos) (wFmt we) := by
  refine (pe_fmt h).imp fun σ H Q => ?_
  rintro ⟨P, al, M, env, R, rs, hw, L⟩
  refine ⟨P, al, M, env, _, rs, hw, fun d M1 v H1 P1 al1 e1 rs1 r1 q => ?_⟩
  split at q
  · rename_i s hv; cases view_str r1 hv; exact .inl ⟨_, rfl, q.1.out, (L.after e1).here rs1 (.str _) q.2⟩
  · rename_i i hv; cases view_int r1 hv; exact .inr ⟨_, rfl, q.1.out, (L.after e1).here rs1 (.str _) q.2⟩
  · exact q.elim
inductive DJ (B : Bs) (X : Cx) : List Expr → List WE → Prop where
  | nil : DJ B X [] []
  | cons {e : Expr} {t : WE} {es : List Expr} {ts : List WE} (h : DE B X e t) (r : DJ B X es ts) : DJ B X (e :: es) (t :: ts)
theorem DJ.pj {es : List Expr} {ws : List WE} (h : DJ B X es ws) : PJ X es (ws.map (tD X.K B)) := by
  induction h with
  | nil => exact .nil
  | cons h r ih => exact .cons h ih
def wJs : List WE → Str → Ev → Mt → (Str → Mt → Prop) → Prop
  | [], acc, _, M, Q => Q acc M
  | w :: ws, acc, env, M, Q => w env M fun d M1 => match d with
    | .str y => Need ((acc ++ y).length ≤ sizeLine) ∧ wJs ws (acc ++ y) env M1 Q
    | _ => False
def wJoined (ws : List WE) : WE := fun env M R => wJs ws Str.empty env M fun out M1 => R (.str out) M1
theorem js_imp {K : PySem.W.Frag} {σ : L2.St} {env : Ev} {R : D → Mt → Prop} {Q : VK} : ∀ (ws : List WE) (acc : Str) (P : Hp) (al : List Addr) (M : Mt) (H : Hp), RS K B P al M env σ H → wJs ws acc env M (fun out M1 => R (.str out) M1) → Lift K B P al env σ H R Q →
    tJs (ws.map (tD K B)) acc σ H fun out H1 => Q (.str out) H1
  | [], acc, P, al, M, H, rs, h, L => L.here rs (.str _) h
  | w :: ws, acc, P, al, M, H, rs, h, L => ⟨P, al, M, env, _, rs, h, fun d M1 v H1 P1 al1 e1 rs1 r1 q => by
    split at q
    · cases r1
      exact ⟨_, rfl, q.1.out, js_imp ws _ _ _ _ _ rs1 q.2 (L.after e1)⟩
    · exact q.elim⟩
theorem d_joined {v1 v2 : Expr} {rest : List Expr} {ws : List WE} (h : DJ B X (v1 :: v2 :: rest) ws) : DE B X (.JoinedStr (v1 :: v2 :: rest) pos) (wJoined ws) := by
  refine (pe_joined h.pj).imp fun σ H Q => ?_
  rintro ⟨P, al, M, env, R, rs, hw, L⟩
  exact js_imp ws _ _ _ _ _ rs hw L
theorem d_joined1 (h : DE B X e we) : DE B X (.JoinedStr [e] pos) we := pe_joined1 h
/-! join -/
@[irreducible] def oJoin : D → D → Mt → (D → Mt → Prop) → Prop := fun x y M R => match x, seqD (viewD M y) with
  | .str a, some l => match strsD l with
    | some ys => Need ((ys.map (·.length)).sum + ys.length * a.length ≤ 16777216) ∧ R (.str (Txt.join a ys)) M
    | none => False
  | _, _ => False
def isStr : D → Bool
  | .str _ => true
  | _ => false
def wJoin (wo we : WE) : WE := fun env M R => wo env M fun x M1 => isStr x = true ∧ we env M1 fun y M2 => oJoin x y M2 R
theorem d_join (ho : DE B X o wo) (he : DE B X e we) (hs : starEach [e] X.env = [(false, eval e X.env)] := by rfl) (hbase : attributeBase o "join" X.env (eval o X.env) = eval o X.env := by rfl) (hline : (apos.endLine == pos.line) = true := by rfl) : DE B X (.Call (.Attribute o "join" apos) [e] [] pos) (wJoin wo we) := by
  refine (pe_join ho he hs hbase hline).imp fun σ H Q => ?_
  rintro ⟨P, al, M, env, R, rs, hw, L⟩
  refine ⟨P, al, M, env, _, rs, hw, fun d M1 v H1 P1 al1 e1 rs1 r1 q => ?_⟩
  obtain ⟨hs, q⟩ := q
  cases d <;> simp [isStr] at hs
  rename_i a
  cases r1
  refine ⟨⟨_, rfl⟩, P1, al1, M1, env, _, rs1, q, fun y M2 v2 H2 P2 al2 e2 rs2 r2 q2 => ?_⟩
  unfold oJoin at q2
  split at q2
  · rename_i a' l hx hl
    cases hx
    split at q2
    · rename_i ys hy
      obtain ⟨b, xs, rfl, h1, h2⟩ := view_seq rs2.toRS0 r2 hl
      have := strs_rep h2 hy
      subst this
      exact ⟨_, b, ys, rfl, rfl, h1, q2.1.out, (L.after (e1.trans e2)).here rs2 (.str _) q2.2⟩
    · exact q2.elim
  · exact q2.elim
theorem join_use {a : Str} {ys : List Str} {y : D} {M : Mt} {R : D → Mt → Prop} (h : seqD (viewD M y) = some (ys.map D.str)) (hl : (ys.map (·.length)).sum + ys.length * a.length ≤ 16777216) (k : R (.str (Txt.join a ys)) M) : oJoin (.str a) y M R := by
  unfold oJoin; simp only [h, strsD_map]; exact ⟨⟨hl⟩, k⟩
/-! str(x) of a text or an int -/
def cStr1 : WCl := fun ds M R => match ds with
  | [x] => match viewD M x with
    | .int i => Need (i.natAbs.log2 < 1920) ∧ R (.str (toString i)) M
    | .str s => R (.str s) M
    | _ => False
  | _ => False
theorem call_str1 : CallR X (.type "str") (fun xs H Q => (∃ i, xs = [.int i] ∧ i.natAbs.log2 < 1920 ∧ Q (.str (toString i)) H) ∨ ∃ a, xs = [.str a] ∧ Q (.str a) H) := by
  intro pins s σ H xs us Q I r h
  rcases h with h | h
  · exact call_str_int pins s σ H xs us Q I r h
  · exact SkE.call_str_str pins s σ H xs us Q I r h
theorem cStr1_ok {K : PySem.W.Frag} : CallD K B (fun xs H Q => (∃ i, xs = [.int i] ∧ i.natAbs.log2 < 1920 ∧ Q (.str (toString i)) H) ∨ ∃ a, xs = [.str a] ∧ Q (.str a) H) cStr1 := by
  intro P al M env σ H vs ds R Q rs r h L
  unfold cStr1 at h
  split at h
  · cases r with
    | cons r1 t =>
      cases t
      split at h
      · rename_i i hv; cases view_int r1 hv; exact .inl ⟨_, rfl, h.1.out, L.here rs (.str _) h.2⟩
      · rename_i i hv; cases view_str r1 hv; exact .inr ⟨_, rfl, L.here rs (.str _) h⟩
      · exact h.elim
  · exact h.elim
end
end L3

namespace L3
open PySem PySem.Spec PyProof.Rows L2
/-- for over a list, a row that is displayed: the loop is kept closed -/
theorem for_lst {we : WE} {g : WG} {b : WS} {k : DEnds} {env : Ev} {M M' : Mt} (ds : List D) (h : ∀ K : D → Mt → Prop, K (.lst ds) M' → we env M K) (q : forL g b k ds env M') : wFor (wIt we) g b k env M := by
  unfold wFor wIt
  exact h _ q
theorem for_tup {we : WE} {g : WG} {b : WS} {k : DEnds} {env : Ev} {M M' : Mt} (ds : List D) (h : ∀ K : D → Mt → Prop, K (.tup ds) M' → we env M K) (q : forL g b k ds env M') : wFor (wIt we) g b k env M := by
  unfold wFor wIt
  exact h _ q
end L3

namespace L3
open PySem PySem.Spec PyProof.Rows L2
/-! ### i >> j -/
section
variable {K : PySem.W.Frag} {B : Bs}
abbrev oShr : WO2 := oI (fun _ j => 0 ≤ j) fun i j => .int (i / 2 ^ j.toNat)
theorem oShr_ok : OpD K B (rI (fun _ j => 0 ≤ j) fun i j => .int (i / 2 ^ j.toNat)) oShr := oI_ok fun _ _ _ _ => .int _
end
/-! ### {k: v for .. in .. if ..} -/
def dcL (is : List Nat) (t : WTs) (wk wv : WE) (vs : List Nat) (env : Ev) : List D → List (Key × D) → Mt → (List (Key × D) → Mt → Prop) → Prop
  | [], acc, M, R => R acc M
  | d :: r, acc, M, R => bnd is d (wipeE env vs) fun env1 => t env1 M fun b M2 => ifB b (wk env1 M2 fun y M3 => wv env1 M3 fun z M4 => match keyD y with
    | some k => Need (acc.length < sizeLine) ∧ dcL is t wk wv vs env r (putD acc k z) M4 R
    | none => False) (dcL is t wk wv vs env r acc M2 R)
def wDc (wi : WI) (is : List Nat) (t : WTs) (wk wv : WE) (vs : List Nat) : WE := fun env M R => wi env M fun ds M1 => dcL is t wk wv vs env ds [] M1 fun acc M2 => R (.dct acc) M2
section
variable {X : Cx} {B : Bs} {tg e : Expr} {pos : Pos}
theorem dc_imp {K : PySem.W.Frag} {wi : WI} {g : TG} {is vs : List Nat} {t : WTs} {wk wv : WE} (bn : Binds1 K g is vs) {P : Hp} {al : List Addr} {M : Mt} {env : Ev} {σ : L2.St} {H : Hp} {R : D → Mt → Prop} {Q : VK}
    (rs : RS K B P al M env σ H) (hw : wDc wi is t wk wv vs env M R) (L : Lift K B P al env σ H R Q) : tDc (tDI K B wi) g (tDT K B t) (tD K B wk) (tD K B wv) vs σ H Q := by
  refine ⟨P, al, M, env, _, rs, hw, fun ds M1 H1 P1 al1 J e1 rs1 wk q => fun p hp => ?_⟩
  obtain ⟨hb, na⟩ := rs1.toRS0.fresh hp
  have np := rs1.toRS0.free hp
  refine ⟨fun i m H2 => m = ds.length - i ∧ i ≤ ds.length ∧ ∃ P2 al2 M2 acc av, Ext P1 al1 H1 P2 al2 H2 ∧ RS K B P2 al2 M2 env σ H2 ∧ P2 p = none ∧ p ∉ al2 ∧ H2 p = some (.dK av) ∧ RepKs K P2 al2 acc av ∧ dcL is t _ wv vs env (ds.drop i) acc M2 (fun acc M2 => R (.dct acc) M2),
    ⟨ds.length, by simp, Nat.zero_le _, P1, al1, M1, [], [], Ext.refl.priv hp _, ⟨rs1.toRS0.priv np na hb _, rs1.slen, rs1.slot⟩, np, na, upd_same, .nil, q⟩, ?_⟩
  rintro i m H2 ⟨rfl, hi, P2, al2, M2, acc, av, e2, rs2, np2, na2, hpv, racc, q2⟩
  obtain ⟨wk1, wk2⟩ := wk B P2 al2 M2 H2 e2.pp e2.pre rs2.toRS0
  by_cases hlt : i < ds.length
  · right
    have hd : ds[i]? = some ds[i] := List.getElem?_eq_getElem hlt
    obtain ⟨go, yl⟩ := wk1 i _ hd
    rw [List.drop_eq_getElem_cons hlt] at q2
    refine ⟨go, fun H' => ∃ P' al' M' acc' av', Ext P1 al1 H1 P' al' H' ∧ RS K B P' al' M' env σ H' ∧ P' p = none ∧ p ∉ al' ∧ H' p = some (.dK av') ∧ RepKs K P' al' acc' av' ∧ dcL is t _ wv vs env (ds.drop (i + 1)) acc' M' (fun acc M2 => R (.dct acc) M2), fun H' ⟨P', al', M', acc', av', x⟩ => ⟨ds.length - (i + 1), by omega, rfl, hlt, P', al', M', acc', av', x⟩, fun x H3 y => ?_⟩
    obtain ⟨P3, e3, r3, rx⟩ := yl x H3 y
    have rs3 := (rs2.step e3 r3)
    have keep : ∀ {Pa ala Ha Pb alb Hb w'}, Ext Pa ala Ha Pb alb Hb → Ha p = some (.dK w') → p ∉ ala → Pa p = none → Hb p = some (.dK w') ∧ p ∉ alb ∧ Pb p = none := fun {Pa ala Ha Pb alb Hb w'} e h n z =>
      ⟨e.fr _ _ h n, (fun m => by have := e.new _ m n; rw [h] at this; cases this), e.pn _ _ h ⟨fun _ u => (by cases u), fun _ u => (by cases u)⟩ z n⟩
    obtain ⟨hp3, na3, np3⟩ := keep e3 hpv na2 np2
    refine bn B P3 al2 M2 _ _ H3 _ x _ _ (rs3.wipe vs) rx q2 fun env4 σ4 rs4 hwp q4 => ⟨by rw [hwp, wipe_wipe], P3, al2, M2, env4, _, rs4, q4, fun b M5 H5 P5 al5 e5 rs5 q5 => ?_⟩
    obtain ⟨hp5, na5, np5⟩ := keep e5 hp3 na3 np3
    have e15 := e2.trans (e3.trans e5)
    have back : ∀ {P' al' M' H'}, Ext P3 al2 H3 P' al' H' → RS0 K B P' al' M' H' → RS K B P' al' M' env σ H' := fun {P' al' M' H'} e r => rs3.step e r
    cases b with
    | true =>
      rw [if_pos rfl]
      refine ⟨P5, al5, M5, env4, _, rs5, q5.1 rfl, fun y M6 v H6 P6 al6 e6 rs6 r6 q6 => ⟨P6, al6, M6, env4, _, rs6, q6, fun z M7 u H7 P7 al7 e7 rs7 r7 q7 => ?_⟩⟩
      split at q7
      · rename_i k hk
        have e67 := e6.trans e7
        obtain ⟨hp7, na7, np7⟩ := keep e67 hp5 na5 np5
        have racc7 := racc.mono (e3.trans (e5.trans e67)).pp (e3.trans (e5.trans e67)).pre
        have ek := key_rep r6 hk
        subst ek
        refine ⟨av, k, rfl, hp7, by rw [← racc.length]; exact q7.1.out, P7, al7, M7, putD acc k z, putK av k u, (e15.trans e67).priv hp _, ?_, np7, na7, upd_same, racc7.put r7 k, q7.2⟩
        have r8 := back (e5.trans e67) rs7.toRS0
        exact ⟨r8.toRS0.priv np7 na7 hb _, r8.slen, r8.slot⟩
      · exact q7.elim
    | false =>
      rw [if_neg Bool.false_ne_true]
      exact ⟨P5, al5, M5, acc, av, e15, back e5 rs5.toRS0, np5, na5, hp5, racc.mono (e3.trans e5).pp (e3.trans e5).pre, q5.2 rfl⟩
  · left
    have ei : i = ds.length := by omega
    subst ei
    rw [List.drop_length] at q2
    refine ⟨wk2, ?_⟩
    have sm : Same P2 (upd P2 p (.dK av)) := fun b x h => by rw [upd_ne (ne_of_none h np2)]; exact h
    refine L _ _ _ _ _ _ (e1.trans (e2.pub hp np2 (.dK av))) ⟨rs2.toRS0.pub np2 na2 hb hpv, rs2.slen, fun j d h => ?_⟩ (.dct upd_same (racc.mono sm (List.prefix_refl _))) q2
    obtain ⟨v, h1, h2⟩ := rs2.slot j d h
    exact ⟨v, h1, h2.mono sm (List.prefix_refl _)⟩
theorem d_dc {kx vx : Expr} {ifs : List Expr} {scope : Scope} {own : List (Str × Nat)} {g : TG} {is : List Nat} {wi : WI} {t : WTs} {wk wv : WE} (hc : X.calm = true) (hN : X.N.Nodup) (hi : DI B X tg e wi) (ok : BlkOk X.N X.env.scope scope own)
    (hg : ∀ (s : Shared) (H : Hp) (C : Addr) (cl : List (Str × Addr)) (fp : List Addr), PG (X.blk s H scope (compEnvC scope cl C X.env) fp) tg g) (bn : Binds1 X.K g is (own.map (·.2)))
    (ht : ∀ (s : Shared) (H : Hp) (C : Addr) (cl : List (Str × Addr)) (fp : List Addr), DTs B (X.blk s H scope (compEnvC scope cl C X.env) fp) ifs t)
    (hk : ∀ (s : Shared) (H : Hp) (C : Addr) (cl : List (Str × Addr)) (fp : List Addr), DE B (X.blk s H scope (compEnvC scope cl C X.env) fp) kx wk)
    (he : ∀ (s : Shared) (H : Hp) (C : Addr) (cl : List (Str × Addr)) (fp : List Addr), DE B (X.blk s H scope (compEnvC scope cl C X.env) fp) vx wv) (hs : ∀ x, foldedSetIterable e X.env x = pure x := by intro _; rfl) :
    DE B X (.DictComp kx vx [⟨tg, e, ifs, 0⟩] scope pos) (wDc wi is t wk wv (own.map (·.2))) := by
  refine (pe_dc (tt := tDT X.K B t) (tk := tD X.K B wk) (tv := tD X.K B wv) hc hN hi ok hg ht hk he hs).imp fun σ H Q => ?_
  rintro ⟨P, al, M, env, R, rs, hw, L⟩
  exact dc_imp bn rs hw L
end
theorem putD_len {ks : List (Key × D)} {k : Key} {z : D} : (putD ks k z).length ≤ ks.length + 1 := by
  unfold putD
  split
  · rw [List.length_map]; omega
  · simp
/-- a dict comprehension, by what holds behind each turn -/
theorem dcL_inv {is vs : List Nat} {t : WTs} {wk wv : WE} {env : Ev} (I : Nat → List (Key × D) → Mt → Prop) {ds : List D} {M : Mt} {R : List (Key × D) → Mt → Prop} (hl : ds.length ≤ sizeLine) (h0 : I 0 [] M)
    (hs : ∀ (i : Nat) (d : D) (acc : List (Key × D)) (M : Mt) (A : D → D → Mt → Prop) (C : Mt → Prop), ds[i]? = some d → I i acc M → (∀ y k z M', keyD y = some k → I (i + 1) (putD acc k z) M' → A y z M') → (∀ M', I (i + 1) acc M' → C M') →
      bnd is d (wipeE env vs) fun env1 => t env1 M fun b M2 => ifB b (wk env1 M2 fun y M3 => wv env1 M3 fun z M4 => A y z M4) (C M2))
    (h : ∀ acc M', acc.length ≤ ds.length → I ds.length acc M' → R acc M') : dcL is t wk wv vs env ds [] M R := by
  have key : ∀ (n i : Nat), i + n = ds.length → ∀ acc M, acc.length ≤ i → I i acc M → dcL is t wk wv vs env (ds.drop i) acc M R := by
    intro n
    induction n with
    | zero =>
      intro i hi acc M ha q
      have : i = ds.length := by omega
      subst this
      rw [List.drop_eq_nil_of_le (by omega)]
      exact h _ _ ha q
    | succ n ih =>
      intro i hi acc M ha q
      have hlt : i < ds.length := by omega
      rw [List.drop_eq_getElem_cons hlt]
      refine hs i _ acc M (fun y z M4 => match keyD y with
        | some k => Need (acc.length < sizeLine) ∧ dcL is t wk wv vs env (ds.drop (i + 1)) (putD acc k z) M4 R
        | none => False) _ (List.getElem?_eq_getElem hlt) q (fun y k z M' hk q2 => ?_) fun M' q2 => ih (i + 1) (by omega) _ _ (by omega) q2
      simp only [hk]
      exact ⟨⟨by omega⟩, ih (i + 1) (by omega) _ _ (by have := @putD_len acc k z; omega) q2⟩
  have := key ds.length 0 (by omega) [] M (Nat.le_refl _) h0
  simpa using this
end L3

/-! ### len(set(xs)), xs a tuple of texts, any number of them -/
namespace L3
open PySem PySem.Spec PyProof.Rows L2 PySem.SeqAt
/-- how many different ones -/
def dist : List Str → List Str → Nat
  | _, [] => 0
  | seen, y :: r => (if y ∈ seen then 0 else 1) + dist (seen ++ [y]) r
theorem dist_le : ∀ (l seen : List Str), dist seen l ≤ l.length
  | [], _ => Nat.le_refl _
  | y :: r, seen => by
    have := dist_le r (seen ++ [y])
    unfold dist
    rw [List.length_cons]
    split <;> omega
theorem dist_full : ∀ (l seen : List Str), dist seen l = l.length ↔ (l.Nodup ∧ ∀ y ∈ l, y ∉ seen)
  | [], _ => by simp [dist]
  | y :: r, seen => by
    have h1 := dist_le r (seen ++ [y])
    have ih := dist_full r (seen ++ [y])
    unfold dist
    rw [List.length_cons, List.nodup_cons]
    constructor
    · intro h
      split at h
      · omega
      · rename_i hy
        obtain ⟨n, q⟩ := ih.mp (by omega)
        refine ⟨⟨fun hm => ?_, n⟩, fun z hz => ?_⟩
        · exact q y hm (by simp)
        · rcases List.mem_cons.mp hz with rfl | hz
          · exact hy
          · exact fun hs => q z hz (by simp [hs])
    · rintro ⟨⟨hn, n⟩, q⟩
      rw [if_neg (q y List.mem_cons_self), ih.mpr ⟨n, fun z hz hs => ?_⟩]
      · omega
      · rcases List.mem_append.mp hs with hs | hs
        · exact q z (List.mem_cons_of_mem _ hz) hs
        · have : z = y := by simpa using hs
          exact hn (this ▸ hz)
section
variable {prog : Program} {w : World} {A : Around} {E : Value → Shared → Prop} {s : Shared}
abbrev SetAt (prog : Program) (w : World) (h : Heap) (a : Addr) (ys : List Str) : Prop := h.SetOf (strKind prog w) a (fun k => decide (k ∈ ys)) (dist [] ys)
theorem dist_snoc : ∀ (l seen : List Str) (y : Str), dist seen (l ++ [y]) = dist seen l + (if y ∈ seen ++ l then 0 else 1)
  | [], seen, y => by simp [dist]
  | x :: r, seen, y => by
    have ih := dist_snoc r (seen ++ [x]) y
    show dist seen (x :: (r ++ [y])) = _
    unfold dist
    rw [ih, List.append_assoc]
    simp only [List.singleton_append]
    omega
theorem setAt_far {h h' : Heap} {a : Addr} {ys : List Str} (q : SetAt prog w h a ys) (e : ∀ o, h.get? a = some o → h'.get? a = some o) : SetAt prog w h' a ys := by
  obtain ⟨o, es, ep, t, ho, rest⟩ := q
  exact ⟨o, es, ep, t, e _ ho, rest⟩
theorem turns {Sa Ia : Addr} {fp wr : List Addr} {G : Array GenState → Array GenState → Prop} {n : Nat} {Pv : Nat → Value → Prop} {St : Nat → Shared → Prop} {R : Result → Shared → Prop} {ys : List Str}
    (W : WalksS prog w A.in1 Ia fp wr G n Pv St) (hSf : Sa ∉ fp) (hlen : n = ys.length) (hfit : ys.length + 1 < scanBound) (hv : ∀ i v, Pv i v → ∃ y t, ys[i]? = some y ∧ v = .str y t)
    {s0 : Shared} (fin : ∀ s', Moved (Sa :: wr) G s0 s' → SetAt prog w s'.heap Sa ys → R (.ok (.ret .none)) s') :
    ∀ (m i : Nat), n - i = m → i ≤ n → ∀ s : Shared, Moved (Sa :: wr) G s0 s → St i s → SetAt prog w s.heap Sa (ys.take i) → codeAny (model prog w) A (.builtin "set.update.loop" ⟨[.ref Sa, .ref Ia], []⟩) R s := by
  have hSw : Sa ∉ wr := fun h => hSf (W.sub _ h)
  have up : ∀ b ∈ wr, b ∈ Sa :: wr := fun b hb => List.mem_cons_of_mem _ hb
  intro m
  induction m with
  | zero =>
    intro i hm hi s mv st q
    obtain rfl : i = n := by omega
    refine codeAny_builtin PyProof.Rows.F.entry_set_update_loop (?_ : wpAny _ _ (pyNext (.ref Ia) >>= _) _ _ _)
    rw [Around.under_plainId PyProof.Rows.F.plain_set_update_loop]
    refine wpAny_bind (W.done s _ _ st fun s' mv' => wpAny_pure (fin s' (Moved.trans W.gtrans mv (mv'.mono up)) ?_))
    rw [hlen, List.take_length] at q
    exact setAt_far q fun o e => mv'.heap Sa o hSw e
  | succ m ih =>
    intro i hm hi s mv st q
    have hlt : i < n := by omega
    refine codeAny_builtin PyProof.Rows.F.entry_set_update_loop (?_ : wpAny _ _ (pyNext (.ref Ia) >>= _) _ _ _)
    rw [Around.under_plainId PyProof.Rows.F.plain_set_update_loop]
    refine wpAny_bind (W.item i s _ _ hlt st fun v s' hP st' mv' => ?_)
    obtain ⟨y, t, hy, rfl⟩ := hv i v hP
    have q' : SetAt prog w s'.heap Sa (ys.take i) := setAt_far q fun o e => mv'.heap Sa o hSw e
    have hd := dist_le (ys.take i) []
    have hti : (ys.take i).length ≤ ys.length := by rw [List.length_take]; omega
    have et : ys.take (i + 1) = ys.take i ++ [y] := by rw [List.take_add_one, hy]; rfl
    refine wpAny_bind (m := holding [Value.str y t] (setAdd Sa (.str y t))) (wpAny_holding ?_)
    unfold setAdd
    refine wpAny_holding (wpAny_bind ((strKind prog w).pyHash (k := y) (strKind_is _ _ _ _) ?_))
    refine wpAny_setAddHashed_of (knd := strKind prog w) (s := { s' with toks := s'.toks + 1 }) (strKind_is _ _ _ _) rfl q' (by omega) fun h' sb q2 => ?_
    have q3 : SetAt prog w h' Sa (ys.take (i + 1)) := by
      refine SetOf_congr q2 (fun k => ?_) ?_
      · rw [et]; simp
      · rw [et, dist_snoc, List.nil_append]
        by_cases hm : y ∈ ys.take i <;> simp [hm]
    have far : ∀ b o, b ≠ Sa → s'.heap.get? b = some o → h'.get? b = some o := fun b o hb e => by rw [sb.2 b hb]; exact e
    refine wpAny_pure ⟨plainId_quiet PyProof.Rows.F.plain_set_update_loop _, ih (i + 1) (by omega) hlt _ (Moved.trans W.gtrans mv ((mv'.mono up).then_heap (Nat.le_succ _) fun b o hb e => far b o (fun z => hb (z ▸ List.mem_cons_self)) e)) (W.frame _ s' _ _ st' (Nat.le_succ _) fun b hb o e => far b o (fun z => hSf (z ▸ hb)) e) q3⟩
abbrev newSetO (led : Bool) : Obj := { cls := .type "set", dict := none, data := .set #[] 0 (.fresh 0 0 led) }
/-- set(a), by what the new set's own start does with it -/
theorem call_set1 {a : Value} {Q : Value → Shared → Prop}
    (next : ∀ led, wpAny (model prog w) A.in1.in1 (Builtin.«set.__init__» ⟨[.ref s.heap.objs.size, a], []⟩)
      (fun fin s' => match fin with | .done f => wants (fun r s₂ => r = .none ∧ Q (.ref s.heap.objs.size) s₂) E (.ok f) s' | .again c => c.quiet = true ∧ codeAny (model prog w) A.in1 c (wants (fun r s₂ => r = .none ∧ Q (.ref s.heap.objs.size) s₂) E) s')
      (fun e s' => wants (fun r s₂ => r = .none ∧ Q (.ref s.heap.objs.size) s₂) E (.error e) s') { s with heap := s.heap.push (newSetO led) }) : wpAny (model prog w) A (call (.type "set") [a]) Q E s := by
  have F := PySem.F.called_set
  obtain ⟨c, tl, m1⟩ := F.mro
  have m2 := F.made
  have m3 := F.sub
  have m4 := F.notType
  have m5 := F.canCreate
  have m6 := PySem.F.typeCall_set_1 a
  have m7 := F.init.lookup
  refine wpAny_call (codeAny_of_tree (?_ : wpAny _ _ (callAny (.type "set") ⟨[a], []⟩) _ _ _))
  refine wpAny_pure ⟨Code.quiet_builtin _ (by decide +kernel), codeAny_builtin PySem.F.entry_type_call ?_⟩
  rw [Around.under_plain (weight_type_call_type "set" [a] []) rfl]
  repeat (any_goals (first | assumption | wp_step))
  refine codeAny_mono (PySem.code_set_new_1 a (E := E) (Q₁ := fun v s₁ => ∃ led, v = .ref s.heap.objs.size ∧ s₁ = { s with heap := s.heap.push (newSetO led) }) fun led => ⟨led, rfl, rfl⟩) fun r s₁ q => ?_
  rcases r with e | fl
  · exact q
  cases fl <;> first | exact q.elim | skip
  obtain ⟨led, rfl, rfl⟩ := q
  have own : (s.heap.push (newSetO led)).get? s.heap.objs.size = some (newSetO led) := Heap.get?_push_size _ rfl
  have hT : Shared.TypeIs { s with heap := s.heap.push (newSetO led) } (.ref s.heap.objs.size) "set" := ⟨_, own, rfl⟩
  have m8 := F.init.bind (.ref s.heap.objs.size)
  repeat (any_goals (first | assumption | wp_step))
  refine codeAny_mono (codeAny_call_builtin F.init.plain PySem.F.entry_set_init (PySem.check_set_init_1 hT (next led))) fun r₂ s₂ q => ?_
  rcases r₂ with e | fl
  · exact q
  cases fl <;> first | exact q.elim | skip
  obtain ⟨rfl, q⟩ := q
  repeat (any_goals (first | assumption | wp_step))
theorem call_setT {l : Addr} {items : Array Value} {ys : List Str} {Q : Value → Shared → Prop} (cold : A.handled = none) (hl : s.heap.IsTuple l items) (hit : StrsAre items.toList ys) (hfit : ys.length + 1 < scanBound)
    (h : ∀ h' tk, SetAt prog w h' s.heap.objs.size ys → (∀ b o, s.heap.get? b = some o → h'.get? b = some o) → Q (.ref s.heap.objs.size) { s with heap := h', toks := tk }) : wpAny (model prog w) A (call (.type "set") [.ref l]) Q E s := by
  refine call_set1 fun led => ?_
  have own : (s.heap.push (newSetO led)).get? s.heap.objs.size = some (newSetO led) := Heap.get?_push_size _ rfl
  obtain ⟨ol, hol, hcl, nl, hdl⟩ := hl
  obtain ⟨ocls, odict, odata, oslots⟩ := ol
  simp only at hcl hdl
  subst hcl; subst hdl
  have there := Heap.get?_push_of_some (newSetO led) hol
  have tupl : (s.heap.push (newSetO led)).IsTuple l items := ⟨_, there, rfl, nl, rfl⟩
  have s1 := PySem.F.sub_tuple_set
  have s2 := PySem.F.sub_tuple_frozenset
  have s3 : (Value.type "tuple" == Value.type "dict") = false := by decide
  have cold3 : A.in1.in1.in1.handled = none := by simp [cold]
  have isz : items.size = ys.length := by rw [← StrsAre.len_eq hit, Array.length_toList]
  have ll : l < s.heap.objs.size := Heap.lt_size hol
  have sz1 : (s.heap.push (newSetO led)).objs.size = s.heap.objs.size + 1 := Heap.size_push ..
  unfold Builtin.«set.__init__» noKeywords Builtin.Frozenset.updateFrom
  generalize hPI : pyIter = PI
  wp_walk
  subst hPI
  refine wpAny_pyIter_tuple tupl ?_
  refine wpAny_bind (wpAny_runValue ?_)
  have hSf : s.heap.objs.size ∉ [(s.heap.push (newSetO led)).objs.size, l] := by
    rw [sz1]
    simp only [List.mem_cons, List.not_mem_nil, or_false, not_or]
    exact ⟨Nat.ne_of_lt (Nat.lt_succ_self _), Nat.ne_of_gt ll⟩
  refine turns ((Walks.tuple cold3 _ l (by rw [sz1]; exact Nat.ne_of_lt (Nat.lt_succ_of_lt ll)) items).toS) hSf isz hfit (fun i v hv => ?_) (fun s' mv q => ?_) (items.size - 0) 0 rfl (Nat.zero_le _) _ (Moved.refl fun _ => rfl) ⟨⟨_, Heap.get?_push_size _ rfl, rfl, rfl⟩, tupl.push _⟩ ?_
  · obtain ⟨tk, e⟩ := SS.strs_at hit i v (by rw [Array.getElem?_toList]; exact hv)
    have hi : i < ys.length := by rw [← isz]; exact (Array.getElem?_eq_some_iff.mp hv).1
    exact ⟨ys[i], tk, List.getElem?_eq_getElem hi, by rw [e, List.getD_eq_getElem?_getD, List.getElem?_eq_getElem hi]; rfl⟩
  · obtain ⟨h', g', d', tk', os'⟩ := s'
    obtain rfl : g' = s.gens := mv.gens
    obtain rfl : d' = s.drawn := mv.drawn
    obtain rfl : os' = s.os := mv.os
    refine wpAny_pure (?_ : wpAny _ _ (ret Value.none) _ _ _)
    refine wpAny_pure ⟨rfl, h h' tk' q fun b o e => ?_⟩
    have hb := Heap.lt_size e
    refine mv.heap b o ?_ (Heap.get?_push_of_some _ (Heap.get?_push_of_some _ e))
    simp only [List.mem_cons, List.not_mem_nil, or_false, not_or]
    exact ⟨Nat.ne_of_lt hb, by rw [sz1]; exact Nat.ne_of_lt (Nat.lt_succ_of_lt hb)⟩
  · refine SetOf_congr ((setObjOf_fresh (knd := strKind prog w) led).setOf (Heap.get?_push_of_some _ own) (by unfold scanBound; omega)) (fun k => ?_) rfl
    simp
end
section
variable {X : Cx} {B : Bs} {a : Expr} {wa : WE} {p p2 q pos : Pos}
def tLenT (K : PySem.W.Frag) (ta : TE) : TE := fun σ H Q => ta σ H fun x H1 => ∃ (l : Addr) (ys : List Str), x = V.ref l ∧ SqT K H1 l (ys.map V.str) ∧ ys.length < 100 ∧ Q (.int (dist [] ys)) H1
theorem pe_lenT {ta : TE} (hc : X.calm = true) (hg : Gl X "len") (hm : X.mg "len" = none) (hg2 : Gl X "set") (hm2 : X.mg "set" = none) (ha : PE X a ta)
    (na : starEach [a] X.env = (false, eval a X.env) :: starEach [] X.env := by rfl) : PE X (.Call (.Name "len" p) [.Call (.Name "set" p2) [a] [] q] [] pos) (tLenT X.K ta) := ⟨fun pins s σ H Q I h => by
  refine Call_ (ld_blt I hg hm PySem.boot_len (callWith_builtin1 (args_cons (Call_ (ld_blt I hg2 hm2 PyProof.Rows.boot_set (callWith_type1 (args_cons (thn (ha.run pins s σ H _ I h) fun v s1 q0 => args_nil ?_) na) na rfl))) rfl) rfl rfl))
  obtain ⟨x, H1, I1, r1, l, ys, rfl, hq, hb, q1⟩ := q0
  cases r1
  obtain ⟨its, r, tup, _⟩ := I1.tuple hq
  have hb' : ys.length + 1 < scanBound := by unfold scanBound; omega
  refine call_setT (I1.ok.hd hc) tup (by simpa using strsAre_of r) hb' fun h' tk st keep => args_nil ?_
  obtain ⟨o, es, ep, t, ho, hex, hd, _, _, _, hf, hn⟩ := st
  have hle := dist_le ys []
  have I2 : Inv X pins σ H1 { s1 with heap := h', toks := tk } := I1.kept keep
  exact call_len_set ho hex hd hf (by rw [hn]; omega) ⟨.int (dist [] ys), H1, I2.tok _, ⟨_, by rw [hn]⟩, q1⟩⟩
def wLenSet (wa : WE) : WE := fun env M R => wa env M fun d M1 => match viewD M1 d with
  | .tup l => match strsD l with
    | some ys => Need (ys.length < 100) ∧ R (.int (dist [] ys)) M1
    | none => False
  | _ => False
theorem d_lenSet (hc : X.calm = true) (hg : Gl X "len") (hm : X.mg "len" = none) (hg2 : Gl X "set") (hm2 : X.mg "set" = none) (ha : DE B X a wa)
    (na : starEach [a] X.env = (false, eval a X.env) :: starEach [] X.env := by rfl) : DE B X (.Call (.Name "len" p) [.Call (.Name "set" p2) [a] [] q] [] pos) (wLenSet wa) := by
  refine (pe_lenT hc hg hm hg2 hm2 ha na).imp fun σ H Q => ?_
  rintro ⟨P, al, M, env, R, rs, hw, L⟩
  refine ⟨P, al, M, env, _, rs, hw, fun d M1 v H1 P1 al1 e1 rs1 r1 q => ?_⟩
  split at q
  · rename_i l hv
    split at q
    · rename_i ys hy
      obtain ⟨b, xs, rfl, h1, h2⟩ := view_tup rs1.toRS0 r1 hv
      have := strs_rep h2 hy
      subst this
      exact ⟨b, ys, rfl, h1, q.1.out, (L.after e1).here rs1 (.int _) q.2⟩
    · exact q.elim
  · exact q.elim
end
end L3

/-! ### t[::-1] of a tuple; list * int -/
namespace L3
open PySem PySem.Spec PyProof.Rows L2 HT
section
variable {prog : Program} {w : World} {A : Around} {E : Value → Shared → Prop} {s : Shared}
theorem fm_congr {α β : Type} {f g : α → Option β} : ∀ l : List α, (∀ m ∈ l, f m = g m) → l.filterMap f = l.filterMap g
  | [], _ => rfl
  | a :: r, h => by rw [List.filterMap_cons, List.filterMap_cons, h a List.mem_cons_self, fm_congr r fun m hm => h m (List.mem_cons_of_mem _ hm)]
theorem back_pick (xs : Array Value) : ((List.range xs.size).filterMap fun (m : Nat) => xs[(((xs.size : Int) - 1) + (m : Int) * (-1)).toNat]?) = xs.toList.reverse := by
  have e : ∀ m ∈ List.range xs.size, (((xs.size : Int) - 1) + (m : Int) * (-1)).toNat = xs.size - 1 - m := fun m hm => by
    have := List.mem_range.mp hm
    omega
  have e2 : ((List.range xs.size).filterMap fun (m : Nat) => xs[(((xs.size : Int) - 1) + (m : Int) * (-1)).toNat]?) = ((List.range xs.size).map fun k => xs.size - 1 - k).filterMap (xs[·]?) := by
    rw [List.filterMap_map]
    exact fm_congr _ fun m hm => by rw [e m hm]; rfl
  rw [e2, PySem.W.krv_range, List.filterMap_reverse, PySem.W.krv_all]
theorem applied_back {sl : Addr} {vs : Value} {n : Nat} {Q : Int × Int × Nat → Shared → Prop} (hs : s.heap.IsSliceOf sl .none .none vs) (ps : IsPart vs (some (-1))) (h : Q ((n : Int) - 1, -1, n) s) :
    wpAny (model prog w) A (Builtin.Slice.sliceApplied (.ref sl) (pure (n : Int))) Q E s := by
  obtain ⟨os, hos, hcs, hds⟩ := id hs
  unfold Builtin.Slice.sliceApplied Builtin.Slice.sliceFields
  refine wpAny_bind (wpAny_bind (wpAny_field hos hds (x := .none) rfl (wpAny_bind (wpAny_field hos hds (x := .none) rfl (wpAny_bind (wpAny_field hos hds (x := vs) rfl (wpAny_pure ?_)))))))
  refine wpAny_bind (slicePart_ ps ?_)
  show wpAny _ _ (if ((-1 : Int) == 0) = true then _ else _) _ _ s
  rw [if_neg (by decide)]
  refine wpAny_bind (slicePart_none (wpAny_bind (slicePart_none (wpAny_bind (wpAny_pure ?_)))))
  have a1 : Builtin.Slice.sliceAdjust none none ((some (-1 : Int)).getD 1) (n : Int) = ((n : Int) - 1, -1) := rfl
  have a2 : Builtin.Slice.slicePlaces ((n : Int) - 1) (-1) (-1) = n := by
    unfold Builtin.Slice.slicePlaces
    rw [if_neg (by decide)]
    split
    · have : ((n : Int) - 1 - -1 - 1) / (- -1) + 1 = n := by rw [show (- -1 : Int) = 1 by decide, Int.ediv_one]; omega
      rw [this]; simp
    · simp; omega
  rw [a1]
  refine wpAny_pure ?_
  show Q ((n : Int) - 1, -1, Builtin.Slice.slicePlaces ((n : Int) - 1) (-1) (-1)) s
  rw [a2]; exact h
theorem getItem_back {t sl : Addr} {items : Array Value} {vs : Value} {Q : Value → Shared → Prop} (ht : IsTup s.heap t items) (hs : s.heap.IsSliceOf sl .none .none vs) (ps : IsPart vs (some (-1))) (hsz : items.size ≤ sizeLine)
    (h : Q (.ref s.heap.objs.size) { s with heap := s.heap.push { cls := .type "tuple", data := .seq items.toList.reverse.toArray } }) : wpAny (model prog w) A (getItem (.ref t) (.ref sl)) Q E s := by
  have fits : sizeOk (.seq items.toList.reverse.toArray) := by
    show items.toList.reverse.toArray.size ≤ sizeLine
    simpa using hsz
  obtain ⟨os, hos, hcs, hds⟩ := id hs
  have hTs : s.TypeIs (.ref sl) "slice" := ⟨os, hos, hcs⟩
  have slot := PyProof.Rows.slot_tuple_getitem
  unfold getItem
  try with_reducible refine wpAny_holding ?_
  first | refine wpAny_bind (wpAny_pure ?_) | skip
  refine wpAny_bind (wpAny_sequenceKey ht.typeIs (by decide) (wpAny_bind (wpAny_callSpecial?_slot (name := Str.ofString "__getitem__") ht.typeIs slot (wpAny_call_entry slot ht.typeIs entry_tuple_getitem ?_ (args_tuple_getitem _ _)))))
  show wpAny _ _ (Builtin.Tuple.tupleItemsOf (.ref t) >>= _) _ _ s
  refine wpAny_bind (tupleItemsOf_ ht (wpAny_bind (wpAny_typeOf hTs ?_)))
  rw [if_pos (by decide)]
  refine wpAny_bind (applied_back hs ps ?_)
  have no : ¬ ((((items.size : Int) - 1) == 0 && (-1 : Int) == 1 && items.size == items.size) = true) := by simp
  show wpAny _ _ (if ((((items.size : Int) - 1) == 0 && (-1 : Int) == 1 && items.size == items.size) = true) then _ else _) _ _ s
  rw [if_neg no, back_pick]
  first
    | exact wpAny_bind (m := Builtin.Tuple.tupleExact _) (wpAny_newObj_type (wpAny_pure ⟨_, rfl, wpAny_pure h⟩) fits)
    | exact wpAny_bind (m := Builtin.Tuple.tupleExact _) (wpAny_newObj_type (wpAny_bind (wpAny_pure (wpAny_pure ⟨_, rfl, wpAny_pure h⟩))) fits)
    | exact wpAny_bind (wpAny_bind (m := Builtin.Tuple.tupleExact _) (wpAny_newObj_type (wpAny_pure (wpAny_pure ⟨_, rfl, wpAny_pure h⟩)) fits))
    | exact wpAny_bind (wpAny_bind (m := Builtin.Tuple.tupleExact _) (wpAny_newObj_type (wpAny_pure ⟨_, rfl, wpAny_pure h⟩) fits))
end
section
variable {X : Cx} {B : Bs} {e : Expr} {we : WE} {pos : Pos}
def tRevT (K : PySem.W.Frag) (te : TE) : TE := fun σ H Q => te σ H fun x H1 => ∃ a xs, x = V.ref a ∧ SqT K H1 a xs ∧ ∀ p, H1 p = none → Q (.ref p) (upd H1 p (.tup xs.reverse))
theorem pe_revT {te : TE} {k : Nat} {p1 p2 p3 : Pos} (he : PE X e te) : PE X (.Subscript e (.Slice none none (some (.UnaryOp .USub (.Constant (.int 1) k p1) p2)) p3) pos) (tRevT X.K te) := ⟨fun pins s σ H Q I h => by
  have step : PO X (some (.UnaryOp .USub (.Constant (.int 1) k p1) p2)) (tPart (tUn (rU fun i => .int (-i)) (tC (.int 1)))) := po_some (pe_un un_neg pe_int)
  refine Subscript_ (thn (he.run pins s σ H _ I h) fun v s1 z => ?_)
  obtain ⟨x, H1, I1, r1, a, xs, rfl, hx, q⟩ := z
  cases r1
  refine wpAny_Slice (thn (po_none.run pins s1 σ H1 (fun o H2 => o = none ∧ H2 = H1) I1 ⟨rfl, rfl⟩) fun vl s2 z => ?_)
  obtain ⟨l, H2, I2, pl, rfl, rfl⟩ := z
  refine thn (po_none.run pins s2 σ H2 (fun o H3 => o = none ∧ H3 = H2) I2 ⟨rfl, rfl⟩) fun vu s3 z => ?_
  obtain ⟨u, H3, I3, pu, rfl, rfl⟩ := z
  refine thn (step.run pins s3 σ H3 (fun o H4 => o = some (-1) ∧ H4 = H3) I3 ⟨1, rfl, -1, rfl, rfl, rfl⟩) fun vs s4 z => ?_
  obtain ⟨o, H4, I4, ps, rfl, rfl⟩ := z
  cases pl
  cases pu
  obtain ⟨sl, hsl⟩ : ∃ sl, sl = s4.heap.push { cls := .type "slice", data := .fields #[.none, .none, vs] } := ⟨_, rfl⟩
  have I5 : Inv X pins σ H4 { s4 with heap := s4.heap.push { cls := .type "slice", data := .fields #[.none, .none, vs] } } := I4.kept (t' := s4.toks) fun b ob q => Heap.get?_push_of_some _ q
  obtain ⟨its, r, ht, hz⟩ := I5.tuple hx
  have hlen := r.length
  show wpAny (model X.prog X.w) X.A (subscriptTail e (.Slice none none (some (.UnaryOp .USub (.Constant (.int 1) k p1) p2)) p3) (.ref a) (.ref s4.heap.objs.size)) (EP X pins σ Q) X.xe _
  refine tail_any (ops := [.ref a, .ref s4.heap.objs.size]) ht.typeIs (PyProof.Rows.slot_tuple_getitem.lookup) ?_ (by with_unfolding_all rfl)
  refine getItem_back ht (Heap.IsSliceOf.new _ .none .none vs) ps (by rw [List.size_toArray]; omega) ?_
  refine ⟨.ref _, _, I5.laid (t' := s4.toks) (o := .tup xs.reverse) (fun b ob q => Heap.get?_push_of_some _ q) (Nat.le_refl _) ?_, rfl, q _ (I5.hok.fresh (Nat.le_refl _))⟩
  exact ⟨by rw [List.length_reverse]; exact hz, _, r.reverse, _, Heap.get?_push_size _ rfl, rfl, 0, rfl⟩⟩
@[irreducible] def oRevT (d : D) (M : Mt) (R : D → Mt → Prop) : Prop := match viewD M d with
  | .tup l => R (.tup l.reverse) M
  | _ => False
def wRevT (we : WE) : WE := fun env M R => we env M fun d M1 => oRevT d M1 R
theorem d_revT {k : Nat} {p1 p2 p3 : Pos} (he : DE B X e we) : DE B X (.Subscript e (.Slice none none (some (.UnaryOp .USub (.Constant (.int 1) k p1) p2)) p3) pos) (wRevT we) := by
  refine (pe_revT he).imp fun σ H Q => ?_
  rintro ⟨P, al, M, env, R, rs, hw, L⟩
  refine ⟨P, al, M, env, _, rs, hw, fun d M1 v H1 P1 al1 e1 rs1 r1 q => ?_⟩
  unfold oRevT at q
  split at q
  · rename_i l hl
    obtain ⟨a, xs, rfl, h1, q1⟩ := view_tup rs1.toRS0 r1 hl
    exact ⟨a, xs, rfl, h1, fun p hn => (L.after e1).alloc rs1 hn (.tup (.inl (.inl upd_same)) (q1.rev.mono (same_new rs1.toRS0 hn) (List.prefix_refl _))) q⟩
  · exact q.elim
theorem revT_use {x : D} {l : List D} {M : Mt} {R : D → Mt → Prop} (h : viewD M x = .tup l) (k : R (.tup l.reverse) M) : oRevT x M R := by
  unfold oRevT; rw [h]; exact k
/-! list * int -/
@[irreducible] def oRepL : WO2 := fun x y M R => match viewD M x, y with
  | .lst l, .int k => Need (0 ≤ k ∧ k < 1000 ∧ l.length ≤ 1000) ∧ R (.lst (List.replicate k.toNat l).flatten) M
  | _, _ => False
theorem Reps.flat {K : PySem.W.Frag} {P : Hp} {al : List Addr} {ds : List D} {vs : List V} (r : Reps K P al ds vs) : ∀ n : Nat, Reps K P al (List.replicate n ds).flatten (List.replicate n vs).flatten
  | 0 => .nil
  | n + 1 => by
    rw [List.replicate_succ, List.replicate_succ, List.flatten_cons, List.flatten_cons]
    exact r.append (Reps.flat r n)
theorem oRepL_ok {K : PySem.W.Frag} : OpD K B rRep oRepL := by
  intro P al M env σ H x y dx dy R Q rs r1 r2 h L
  unfold oRepL at h
  split at h
  · rename_i l k v1
    obtain ⟨hn, h⟩ := h
    obtain ⟨h0, h1, h2⟩ := hn.out
    obtain ⟨a, xs, rfl, ha, q1⟩ := view_lst rs.toRS0 r1 v1
    cases r2
    refine ⟨a, k, xs, rfl, rfl, ha, by omega, by omega, ?_, fun p hp => L.alloc rs hp (.lst upd_same ((Reps.flat q1 k.toNat).mono (same_new rs.toRS0 hp) (List.prefix_refl _))) h⟩
    rw [← q1.length, line16]
    have : l.length * k.toNat ≤ 1000 * 1000 := Nat.mul_le_mul h2 (by omega)
    omega
  · exact h.elim
theorem repL_use {x : D} {l : List D} {k : Int} {M : Mt} {R : D → Mt → Prop} (h : viewD M x = .lst l) (hk : 0 ≤ k ∧ k < 1000 ∧ l.length ≤ 1000) (q : R (.lst (List.replicate k.toNat l).flatten) M) : oRepL x (.int k) M R := by
  unfold oRepL; simp only [h]; exact ⟨⟨hk⟩, q⟩
end
end L3

/-! ### x in a list of data and dicts -/
namespace L3
open PySem PySem.Spec PyProof.Rows L2 PySem.SeqAt
open AutoSeq1 (wpAny_loadPart')
section
theorem strEq_dict (b : Str) (u : Tok) (l : Addr) (o : Obj) (es : Array DictEntry) (ep : Nat) :
    Meets (Builtin.«str.__eq__» ⟨[.str b u, .ref l], []⟩) (fun _ R s => (s.heap.get? l = some o ∧ o.data = .dict es ep) ∧ R (.ok (.ret .notImplemented)) s) := .of_wp fun prog w A R s h => by
  obtain ⟨hp, g, d, tk, os⟩ := s
  obtain ⟨⟨hl, hd⟩, h⟩ := h
  obtain ⟨c, dd, data, sl⟩ := o
  simp only at hd
  subst hd
  wp_walk using wpAny_loadPart' hl, wpAny_load hl
  exact ⟨_, rfl, h⟩
theorem intEq_dict (b : Int) (u : Tok) (l : Addr) (o : Obj) (es : Array DictEntry) (ep : Nat) :
    Meets (Builtin.«int.__eq__» ⟨[.int b u, .ref l], []⟩) (fun _ R s => (s.heap.get? l = some o ∧ o.data = .dict es ep) ∧ R (.ok (.ret .notImplemented)) s) := .of_wp fun prog w A R s h => by
  obtain ⟨hp, g, d, tk, os⟩ := s
  obtain ⟨⟨hl, hd⟩, h⟩ := h
  obtain ⟨c, dd, data, sl⟩ := o
  simp only at hd
  subst hd
  wp_walk using wpAny_loadPart' hl, wpAny_load hl
  exact ⟨_, rfl, h⟩
variable {A : Around} {s : Shared}
theorem dictEq_no {prog : Program} {w : World} {E : Value → Shared → Prop} {d : Addr} {b : Value} {Tb : String} {Q : Value → Shared → Prop} {nm : Str} (sl : Slot "dict" nm "dict.__eq__") (hd : s.TypeIs (.ref d) "dict") (hb : s.TypeIs b Tb) (hs : isSubtype (.type Tb) (.type "dict") = pure false) (q : Q .notImplemented s) :
    wpAny (model prog w) A (call (.builtin "dict.__eq__") [.ref d, b]) Q E s := by
  refine wpAny_call_entry sl hd PySem.F.entry_dict_eq ?_ (PySem.F.args_dict_eq_2 _ _)
  show wpAny _ _ (Builtin.Dict.dictSlotArgs "__eq__" ⟨[.ref d, b], []⟩ >>= _) _ _ s
  refine wpAny_bind ?_
  unfold Builtin.Dict.dictSlotArgs
  refine wpAny_bind (wpAny_notOrdered_dict hd ?_)
  show wpAny _ _ (pure (Value.ref d, b)) _ _ s
  refine wpAny_pure ?_
  refine wpAny_bind (wpAny_isInstance (T := Tb) hb hs ?_)
  simp only [Bool.not_false, if_true]
  exact wpAny_bind (wpAny_rule (wpAny_pure ⟨_, rfl, q⟩))
end
end L3
namespace L3
open PySem PySem.Spec PyProof.Rows L2 PySem.SeqAt
section
variable {A : Around} {s : Shared}
structure DctAt (s : Shared) (d : Addr) : Prop where
  ex : ∃ o es ep, s.heap.get? d = some o ∧ o.cls = .type "dict" ∧ o.data = .dict es ep
theorem DctAt.ty {d : Addr} (h : DctAt s d) : s.TypeIs (.ref d) "dict" := by
  obtain ⟨o, es, ep, h1, h2, _⟩ := h.ex
  exact ⟨o, h1, h2⟩
theorem rc_none_dict {d : Addr} (h : DctAt s d) (hu : A.units < cLine) : RcAt A s .none (.ref d) false := fun prog w E Q q =>
  rc_eq_decline_or (k := false) rfl h.ty (by decide) PySem.F.sub_dict_NoneType PySem.F.slot_NoneType_eq PySem.F.slot_dict_eq_refl
    (fun _ z => call_gives PySem.F.slot_NoneType_eq rfl PySem.F.entry_NoneType_eq (PySem.F.args_NoneType_eq_2 _ _) (NoneType___eq___none_ref_0 d) z)
    (fun _ z => dictEq_no PySem.F.slot_dict_eq_refl h.ty (show s.TypeIs .none "NoneType" from rfl) PySem.F.sub_NoneType_dict z)
    (fun _ z => wpAny_of_eq (rfl : isSame .none (.ref d) = pure false) z) (.inr hu) q
theorem rc_str_dict {d : Addr} {b : Str} {u : Tok} (h : DctAt s d) (hu : A.units < cLine) : RcAt A s (.str b u) (.ref d) false := fun prog w E Q q => by
  obtain ⟨o, es, ep, h1, h2, h3⟩ := h.ex
  exact rc_eq_decline_or (k := false) (typeIs_str s b u) h.ty (by decide) PySem.F.sub_dict_str PySem.F.slot_str_eq PySem.F.slot_dict_eq_refl
    (fun _ z => call_meets PySem.F.slot_str_eq (typeIs_str s b u) PySem.F.entry_str_eq (PySem.F.args_str_eq_2 _ _) (strEq_dict b u d o es ep) ⟨⟨h1, h3⟩, z⟩)
    (fun _ z => dictEq_no PySem.F.slot_dict_eq_refl h.ty (typeIs_str s b u) PySem.F.sub_str_dict z)
    (fun _ z => wpAny_of_eq (rfl : isSame (.str b u) (.ref d) = pure false) z) (.inr hu) q
theorem rc_int_dict {d : Addr} {b : Int} {u : Tok} (h : DctAt s d) (hu : A.units < cLine) : RcAt A s (.int b u) (.ref d) false := fun prog w E Q q => by
  obtain ⟨o, es, ep, h1, h2, h3⟩ := h.ex
  exact rc_eq_decline_or (k := false) (typeIs_int s b u) h.ty (by decide) PySem.F.sub_dict_int PySem.F.slot_int_eq PySem.F.slot_dict_eq_refl
    (fun _ z => call_meets PySem.F.slot_int_eq (typeIs_int s b u) PySem.F.entry_int_eq (PySem.F.args_int_eq_2 _ _) (intEq_dict b u d o es ep) ⟨⟨h1, h3⟩, z⟩)
    (fun _ z => dictEq_no PySem.F.slot_dict_eq_refl h.ty (typeIs_int s b u) PySem.F.sub_int_dict z)
    (fun _ z => wpAny_of_eq (rfl : isSame (.int b u) (.ref d) = pure false) z) (.inr hu) q
theorem eqAt_rc {y : Value} {d : Addr} {k : Bool} (ne : (y == .ref d) = false) (h : RcAt A s y (.ref d) k) : EqAt A s y (.ref d) k := fun prog w E Q q => by
  unfold eqBool
  refine wpAny_holding (wpAny_ite_split (fun e => ?_) fun _ => ?_)
  · rw [ne] at e; cases e
  · cases y <;> exact wpAny_bind (h prog w E _ (wpAny_truthy_bool q))
end
end L3
namespace L3
open PySem PySem.Spec PyProof.Rows L2
section
variable {X : Cx} {B : Bs} {tg e : Expr} {pos : Pos}
/-- a list from a comprehension, that will change -/
theorem d_lcM {elt : Expr} {ifs : List Expr} {scope : Scope} {own : List (Str × Nat)} {g : TG} {is : List Nat} {wi : WI} {t : WTs} {we : WE} (hc : X.calm = true) (hN : X.N.Nodup) (hi : DI B X tg e wi) (ok : BlkOk X.N X.env.scope scope own)
    (hg : ∀ (s : Shared) (H : Hp) (C : Addr) (cl : List (Str × Addr)) (fp : List Addr), PG (X.blk s H scope (compEnvC scope cl C X.env) fp) tg g) (bn : Binds1 X.K g is (own.map (·.2)))
    (ht : ∀ (s : Shared) (H : Hp) (C : Addr) (cl : List (Str × Addr)) (fp : List Addr), DTs B (X.blk s H scope (compEnvC scope cl C X.env) fp) ifs t)
    (he : ∀ (s : Shared) (H : Hp) (C : Addr) (cl : List (Str × Addr)) (fp : List Addr), DE B (X.blk s H scope (compEnvC scope cl C X.env) fp) elt we) (hs : ∀ x, foldedSetIterable e X.env x = pure x := by intro _; rfl) :
    DE B X (.ListComp elt [⟨tg, e, ifs, 0⟩] scope pos) (wLcM wi is t we (own.map (·.2))) := by
  refine (pe_lc (tt := tDT X.K B t) (te := tD X.K B we) hc hN hi ok hg ht he hs).imp fun σ H Q => ?_
  rintro ⟨P, al, M, env, R, rs, hw, L⟩
  exact lc_inM bn rs hw L
end
end L3
namespace L3
open PySem PySem.Spec PyProof.Rows L2 PySem.SeqAt
section
variable {X : Cx} {B : Bs} {e : Expr} {we : WE} {pos : Pos}
/-- a slice of a list, that will change -/
def wSlM (we : WE) (wl wh : WO) : WE := fun env M R => we env M fun x M1 => wl env M1 fun lo M2 => wh env M2 fun hi M3 => match viewD M3 x with
  | .lst l => R (.cel M3.length) (M3 ++ [.lst (cutD l lo hi)])
  | _ => False
theorem d_slM {lo hi : Option Expr} {wl wh : WO} {p2 : Pos} (he : DE B X e we) (hl : DO B X lo wl) (hh : DO B X hi wh) : DE B X (.Subscript e (.Slice lo hi none p2) pos) (wSlM we wl wh) := by
  refine (pe_slice (sl_str.or (sl_list.or sl_tupA)) he hl hh).imp fun σ H Q => ?_
  rintro ⟨P, al, M, env, R, rs, hw, L⟩
  refine ⟨P, al, M, env, _, rs, hw, fun d M1 v H1 P1 al1 e1 rs1 r1 hw1 => ⟨P1, al1, M1, env, _, rs1, hw1, fun lo M2 H2 P2 al2 e2 rs2 hw2 => ⟨P2, al2, M2, env, _, rs2, hw2, fun hi M3 H3 P3 al3 e3 rs3 q => ?_⟩⟩⟩
  have r3 := r1.mono (e2.trans e3).pp (e2.trans e3).pre
  have L3 := L.after (e1.trans (e2.trans e3))
  split at q
  · rename_i l e
    obtain ⟨a, xs, rfl, h1, q1⟩ := view_lst rs3.toRS0 r3 e
    exact .inr (.inl ⟨a, xs, rfl, .inl (.inl h1), fun p hp => L3.allocM rs3 hp (q1.cut lo hi) q⟩)
  · exact q.elim
end
/-! x in a list -/
def isEmp : D → Option Bool
  | .str _ => some false
  | .non => some false
  | .int _ => some false
  | .dct [] => some true
  | _ => none
def isEmps : List D → Option (List Bool)
  | [] => some []
  | d :: r => match isEmp d, isEmps r with
    | some b, some bs => some (b :: bs)
    | _, _ => none
theorem isEmps_map {α : Type} {f : α → D} {g : α → Bool} (h : ∀ x, isEmp (f x) = some (g x)) : ∀ l : List α, isEmps (l.map f) = some (l.map g)
  | [] => rfl
  | x :: r => by simp only [List.map_cons, isEmps, h, isEmps_map h r]
section
variable {X : Cx}
/-- what stands in the list: an empty dict or not -/
inductive EmV (H : Hp) : V → Bool → Prop
  | str (s : Str) : EmV H (.str s) false
  | non : EmV H .non false
  | int (i : Int) : EmV H (.int i) false
  | dct {a : Addr} : H a = some (.dK []) → EmV H (.ref a) true
/-- an empty dict -/
structure EmpAt (s : Shared) (d : Addr) : Prop where
  ex : ∃ o ep, s.heap.get? d = some o ∧ o.cls = .type "dict" ∧ o.ExactDict ∧ o.data = .dict #[] ep
  no : (d == sysModules) = false
theorem EmpAt.dct {s : Shared} {d : Addr} (h : EmpAt s d) : DctAt s d := by
  obtain ⟨o, ep, h1, h2, _, h3⟩ := h.ex
  exact ⟨⟨o, _, ep, h1, h2, h3⟩⟩
theorem EmpAt.of {s : Shared} {d : Addr} (h : EmpAt s d) (prog : Program) (w : World) : s.heap.DictOf (mixKind prog w) d [] := by
  obtain ⟨o, ep, h1, h2, h4, h3⟩ := h.ex
  exact ⟨o, #[], ep, h1, h4, h3, (by intro e he; simp at he), .nil, .nil⟩
theorem emp_at {pins : List (Addr × Obj)} {σ : L2.St} {H : Hp} {s : Shared} {a : Addr} (I : L2.Inv X pins σ H s) (h : H a = some (.dK [])) : EmpAt s a := by
  obtain ⟨_, no, vs, k, dof⟩ := dk_of I.hok h
  cases k
  obtain ⟨o2, t1, t2⟩ := dof.typeIs
  obtain ⟨o, es, ep, h1, h2, h3, _, pr, _⟩ := dof
  rw [h1] at t1
  cases t1
  have : es = #[] := by
    have : es.toList = [] := by
      cases hh : es.toList with
      | nil => rfl
      | cons x r => rw [hh] at pr; cases pr
    exact Array.toList_inj.mp (by rw [this])
  subst this
  exact ⟨⟨_, ep, h1, t2, h2, h3⟩, no⟩
theorem rc_emp {A : Around} {s : Shared} {a d : Addr} (ha : EmpAt s a) (hd : EmpAt s d) (hu : A.units < cLine) : RcAt A s (.ref a) (.ref d) true := fun prog w E Q q =>
  PySem.W.rcP_dicts ha.no hd.no (ha.of prog w) (hd.of prog w) hu (fun _ => .nil) E Q q
theorem em_eq {pins : List (Addr × Obj)} {σ : L2.St} {H : Hp} {s : Shared} {A : Around} {d : Addr} {v : V} {u : Value} {k : Bool} (I : L2.Inv X pins σ H s) (hd : H d = some (.dK [])) (r : RelV v u) (m : EmV H v k) (hu : A.units < cLine) : EqAt A s u (.ref d) k := by
  have D := emp_at I hd
  cases m with
  | str y => obtain ⟨t, rfl⟩ := r; exact eqAt_rc rfl (rc_str_dict D.dct hu)
  | non => cases r; exact eqAt_rc rfl (rc_none_dict D.dct hu)
  | int i => obtain ⟨t, rfl⟩ := r; exact eqAt_rc rfl (rc_int_dict D.dct hu)
  | @dct a ha =>
    cases r
    by_cases e : a = d
    · subst e; exact SeqAt.EqAt.same _
    · refine eqAt_rc ?_ (rc_emp (emp_at I ha) D hu)
      rw [beq_eq_false_iff_ne]
      intro z
      cases z
      exact e rfl
/-- an empty dict in a list -/
def rInEm (neg : Bool) : R2 := fun x y H Q => ∃ d l xs bs, x = V.ref d ∧ y = V.ref l ∧ H d = some (.dK []) ∧ H l = some (.lst xs) ∧ Paired (fun v k => EmV H v k) xs bs ∧ Q (.bl (if neg then !bs.any id else bs.any id)) H
def refB : Value → Bool
  | .ref _ => true
  | _ => false
theorem em_ref {H : Hp} {v : V} {u : Value} {k : Bool} (r : RelV v u) (m : EmV H v k) : refB u = k := by
  cases m with
  | str y => obtain ⟨t, rfl⟩ := r; rfl
  | non => cases r; rfl
  | int i => obtain ⟨t, rfl⟩ := r; rfl
  | dct _ => cases r; rfl
theorem em_all {pins : List (Addr × Obj)} {σ : L2.St} {H : Hp} {s : Shared} {A : Around} {d : Addr} (I : L2.Inv X pins σ H s) (hd : H d = some (.dK [])) (hu : A.units < cLine) : ∀ {xs : List V} {bs : List Bool} {us : List Value}, Paired (fun v k => EmV H v k) xs bs → Vals xs us → (∀ u ∈ us, EqAt A s u (.ref d) (refB u)) ∧ us.map refB = bs
  | _, _, _, .nil, .nil => ⟨fun u h => absurd h List.not_mem_nil, rfl⟩
  | _, _, _, .cons m p, .cons r t => by
    obtain ⟨h1, h2⟩ := em_all I hd hu p t
    have e := em_ref r m
    refine ⟨fun u hm => ?_, by rw [List.map_cons, h2, e]⟩
    rcases List.mem_cons.mp hm with rfl | hm
    · rw [e]; exact em_eq I hd r m hu
    · exact h1 u hm
theorem op_inEm {neg : Bool} (hu : X.A.units + 1 < cLine) : OpR X (compareOp (if neg then .NotIn else .In)) (rInEm neg) := by
  intro pins s σ H x y v u Q I rx ry h
  obtain ⟨d, l, xs, bs, rfl, rfl, hd, hl, hp, q⟩ := h
  cases rx
  cases ry
  obtain ⟨its, r, pl, hz⟩ := I.list (show SqL X.K H l xs from .inl (.inl hl))
  have hu1 : X.A.in1.units < cLine := by show X.A.units + 1 < cLine; exact hu
  obtain ⟨h1, h2⟩ := em_all (A := X.A.in1) I hd hu1 hp r
  have e : its.toArray.any refB = bs.any id := by
    rw [← h2, List.any_map]
    simp [Function.comp_def]
  cases neg with
  | true => exact notIn_listAt refB pl.isList (fun y hy => h1 y (by simpa using hy)) ⟨.bl (!bs.any id), H, I, by rw [e]; rfl, q⟩
  | false => exact in_listAt refB pl.isList (fun y hy => h1 y (by simpa using hy)) ⟨.bl (bs.any id), H, I, by rw [e]; rfl, q⟩
end
end L3
namespace L3
open PySem PySem.Spec PyProof.Rows L2 PySem.SeqAt
section
variable {X : Cx} {B : Bs}
theorem opInX (hu : X.A.units + 65 < cLine) : OpR X (compareOp .In) (fun x y H Q => rInEm false x y H Q ∨ rInD X.K x y H Q) := (op_inEm (neg := false) (by omega)).or (op_inD hu)
theorem opNotInX (hu : X.A.units + 65 < cLine) : OpR X (compareOp .NotIn) (fun x y H Q => rInEm true x y H Q ∨ rNotInD X.K x y H Q) := (op_inEm (neg := true) (by omega)).or (op_notInD hu)
@[irreducible] def oInX (neg : Bool) : WO2 := fun x y M R => match viewD M y with
  | .lst l => match viewD M x with
    | .dct [] => (match isEmps l with
      | some bs => R (.bl (if neg then !bs.any id else bs.any id)) M
      | none => False)
    | x' => (match toP x', toPs l with
      | some p, some ps => Need (SeqAt.shaped p = true) ∧ Need (SeqAt.shaped (.list ps) = true) ∧ R (.bl (if neg then !(ps.any fun z => PyData.eqv z p) else ps.any fun z => PyData.eqv z p)) M
      | _, _ => False)
  | _ => False
theorem emp_rep {K : PySem.W.Frag} {P : Hp} {al : List Addr} {H : Hp} (sm : Same P H) : ∀ {l : List D} {xs : List V} {bs : List Bool}, Reps K P al l xs → isEmps l = some bs → Paired (fun v k => EmV H v k) xs bs
  | _, _, _, .nil, h => by cases h; exact .nil
  | _, _, _, .cons r t, h => by
    unfold isEmps at h
    split at h
    · rename_i b bs hb hbs
      cases h
      refine .cons ?_ (emp_rep sm t hbs)
      unfold isEmp at hb
      split at hb
      · cases hb; cases r; exact .str _
      · cases hb; cases r; exact .non
      · cases hb; cases r; exact .int _
      · cases hb
        cases r with
        | dct h1 h2 => cases h2; exact .dct (sm _ _ h1)
      · cases hb
    · cases h
theorem inX_core {K : PySem.W.Frag} {neg : Bool} {P : Hp} {al : List Addr} {M : Mt} {env : Ev} {σ : L2.St} {H : Hp} {x y : V} {dx dy : D} {R : D → Mt → Prop} {Q : VK} (rs : RS K B P al M env σ H) (r1 : Rep K P al dx x) (r2 : Rep K P al dy y) (h : oInX neg dx dy M R) (L : Lift K B P al env σ H R Q) :
    rInEm neg x y H Q ∨ ∃ d ds, Dp K H x d ∧ Dp K H y (.list ds) ∧ SeqAt.shaped d = true ∧ SeqAt.shaped (.list ds) = true ∧ Q (.bl (if neg then !(ds.any fun z => PyData.eqv z d) else ds.any fun z => PyData.eqv z d)) H := by
  unfold oInX at h
  split at h
  · rename_i l vy
    split at h
    · rename_i vx
      split at h
      · rename_i bs hb
        obtain ⟨d, kvs, rfl, hd, hk⟩ := view_dct rs.toRS0 r1 vx
        obtain ⟨a, xs, rfl, ha, hx⟩ := view_lst rs.toRS0 r2 vy
        cases hk
        exact .inl ⟨d, a, xs, bs, rfl, rfl, hd, ha, emp_rep rs.same hx hb, L.here rs (.bl _) h⟩
      · exact h.elim
    · split at h
      · rename_i p ps hp hps
        refine .inr ⟨p, ps, view_dp rs.toRS0 r1 hp, view_dp rs.toRS0 r2 (by rw [vy]; simp [toP, hps]), h.1.out, h.2.1.out, L.here rs (.bl _) h.2.2⟩
      · exact h.elim
  · exact h.elim
theorem oInX_ok {K : PySem.W.Frag} : OpD K B (fun x y H Q => rInEm false x y H Q ∨ rInD K x y H Q) (oInX false) := fun P al M env σ H x y dx dy R Q rs r1 r2 h L => inX_core rs r1 r2 h L
theorem oNotInX_ok {K : PySem.W.Frag} : OpD K B (fun x y H Q => rInEm true x y H Q ∨ rNotInD K x y H Q) (oInX true) := fun P al M env σ H x y dx dy R Q rs r1 r2 h L => inX_core rs r1 r2 h L
theorem inX_dct {neg : Bool} {x y : D} {l : List D} {bs : List Bool} {M : Mt} {R : D → Mt → Prop} (hx : viewD M x = .dct []) (hy : viewD M y = .lst l) (hb : isEmps l = some bs) (k : R (.bl (if neg then !bs.any id else bs.any id)) M) : oInX neg x y M R := by
  unfold oInX; simp only [hx, hy, hb]; exact k
theorem inX_dat {neg : Bool} {x y : D} {l : List D} {p : PyData} {ps : List PyData} {M : Mt} {R : D → Mt → Prop} (hx : toP (viewD M x) = some p) (hy : viewD M y = .lst l) (hps : toPs l = some ps) (s1 : SeqAt.shaped p = true) (s2 : SeqAt.shaped (.list ps) = true) (k : R (.bl (if neg then !(ps.any fun z => PyData.eqv z p) else ps.any fun z => PyData.eqv z p)) M) : oInX neg x y M R := by
  unfold oInX
  rw [hy]
  dsimp only
  split
  · rename_i e; rw [e] at hx; simp [toP] at hx
  · simp only [hx, hps]; exact ⟨⟨s1⟩, ⟨s2⟩, k⟩
end
end L3
namespace L3
open PySem PySem.Spec PyProof.Rows L2
theorem room65 {k : Nat} {A : Around} (hr : Room (k + 1) A) : A.units + 65 < cLine := by
  have h := hr.in1.units
  have e : A.in1.units = A.units + 1 := rfl
  omega
end L3

namespace L3
open PySem PySem.Spec PyProof.Rows L2
theorem and_one (x : Int) : Builtin.bitAnd x 1 = x % 2 := PyProof.Rows.bitAnd_m1 x
theorem strs_eqv : ∀ l m : List Str, PyData.eqvAll (l.map PyData.str) (m.map PyData.str) = decide (l = m)
  | [], [] => by simp [PyData.eqvAll]
  | [], _ :: _ => by simp [PyData.eqvAll]
  | _ :: _, [] => by simp [PyData.eqvAll]
  | a :: l, b :: m => by
    have ih := strs_eqv l m
    simp only [List.map_cons, PyData.eqvAll, ih]
    have e : PyData.eqv (.str a) (.str b) = decide (a = b) := by
      simp only [PyData.eqv]
      by_cases u : a = b <;> simp [u]
    rw [e]
    by_cases u : a = b <;> by_cases z : l = m <;> simp [u, z]
theorem toPs_strs (l : List Str) : toPs (l.map D.str) = some (l.map PyData.str) := toPs_map (fun _ => rfl) l
theorem strs_shT {l : List Str} (h : ∀ s ∈ l, PyData.strOk s = true) : SeqAt.shaped (.tuple (l.map PyData.str)) = true := shaped_tup (shaped_map (fun s hs => by simp only [PyData.canLay0]; exact h s hs) fun _ _ => Nat.zero_le _)
/-- texts beside texts -/
theorem eq_strs {M : Mt} {x y : D} {l m : List Str} {f : Bool → Bool} {R : D → Mt → Prop} (hx : viewD M x = .tup (l.map D.str)) (hy : viewD M y = .tup (m.map D.str)) (h1 : ∀ s ∈ l, PyData.strOk s = true) (h2 : ∀ s ∈ m, PyData.strOk s = true) (k : R (.bl (f (decide (l = m)))) M) : oEqI f x y M R :=
  eqI_tups hx hy (toPs_strs l) (toPs_strs m) (strs_shT h1) (strs_shT h2) (by rw [strs_eqv]; exact k)
theorem lenSet_use {wa : WE} {env : Ev} {M : Mt} {R : D → Mt → Prop} (ys : List Str) (h : ∀ K : D → Mt → Prop, K (.tup (ys.map D.str)) M → wa env M K) (hl : ys.length < 100) (k : R (.int (dist [] ys)) M) : wLenSet wa env M R := by
  unfold wLenSet
  refine h _ ?_
  show (match strsD (ys.map D.str) with | some ys => _ | none => False : Prop)
  rw [strsD_map]
  exact ⟨⟨hl⟩, k⟩
end L3


namespace L3
open PySem PySem.Spec PyProof.Rows L2 Builtin
section
variable {X : Cx} {B : Bs} {CX : CXT} {k : Nat} {f C : Addr} {n : Str} {sp : DSp}
/-- any value in an instance -/
def rInO (K : PySem.W.Frag) (C : Addr) (sp : DSp) (g : Bool → Bool) : R2 := fun x y H Q => ∃ p dx fs, y = V.ref p ∧ H p = some (.ins C dx fs) ∧ toSp K sp [.ref p, x] H (fun v H' => ∃ b, v = .bl b ∧ Q (.bl (g b)) H') fun _ _ _ => False
theorem op_inO (oc : OpC X.K C "__contains__" f) (F : FnR X.prog X.w X.K X.mg X.base CX k f (toSp X.K sp)) (hr : Room k X.A) (hx : Rz X B CX RXn) : OpR X (compareOp .In) (rInO X.K C sp id) := by
  intro pins s σ H x y v u Q I rx ry h
  obtain ⟨p, dx, fs, rfl, hp, h⟩ := h
  cases ry
  obtain ⟨m, fr⟩ := I.fr
  obtain ⟨_, O, _⟩ := ins_get I.hok hp
  obtain ⟨od, J, _⟩ := O.look
  refine PySem.W.in_K fr I.ok.mod.kin J oc.at_ oc.fn (wpAny_mono (wpAny_call (run_at (us := [.ref p, v]) (vs := [.ref p, x]) F hr (hx σ) I (.cons rfl (.cons rx .nil)) (toSp_imp (fun _ _ _ z => z.elim) h))) (fun r s' z => ?_) fun _ _ z => z)
  obtain ⟨v, H', I', rv, b, rfl, q⟩ := z
  cases rv
  exact wpAny_truthy_bool ⟨.bl b, H', I', rfl, q⟩
theorem op_notInO (oc : OpC X.K C "__contains__" f) (F : FnR X.prog X.w X.K X.mg X.base CX k f (toSp X.K sp)) (hr : Room k X.A) (hx : Rz X B CX RXn) : OpR X (compareOp .NotIn) (rInO X.K C sp fun b => !b) := by
  intro pins s σ H x y v u Q I rx ry h
  obtain ⟨p, dx, fs, rfl, hp, h⟩ := h
  cases ry
  obtain ⟨m, fr⟩ := I.fr
  obtain ⟨_, O, _⟩ := ins_get I.hok hp
  obtain ⟨od, J, _⟩ := O.look
  refine PySem.W.notIn_K fr I.ok.mod.kin J oc.at_ oc.fn (wpAny_mono (wpAny_call (run_at (us := [.ref p, v]) (vs := [.ref p, x]) F hr (hx σ) I (.cons rfl (.cons rx .nil)) (toSp_imp (fun _ _ _ z => z.elim) h))) (fun r s' z => ?_) fun _ _ z => z)
  obtain ⟨v, H', I', rv, b, rfl, q⟩ := z
  cases rv
  exact wpAny_truthy_bool ⟨.bl (!b), H', I', rfl, q⟩
@[irreducible] def oInO (n : Str) (sp : DSp) (g : Bool → Bool) : WO2 := fun x y M R => match viewD M y with
  | .obj n1 _ => Need (n1 = n) ∧ sp [y, x] M (retB fun b M' => R (.bl (g b)) M') fun _ _ _ => False
  | _ => False
theorem oInO_ok {K : PySem.W.Frag} {g : Bool → Bool} (ca : ClsAt K n C) : OpD K B (rInO K C sp g) (oInO n sp g) := by
  intro P al M env σ H x y dx dy R Q rs r1 r2 h L
  unfold oInO at h
  split at h
  · rename_i n1 fs v1
    obtain ⟨hn, h⟩ := h
    have h1 := hn.out
    subst h1
    obtain ⟨p, dx', xs, rfl, hp⟩ := view_objOf ca rs.toRS0 r2 v1
    refine ⟨p, dx', xs, rfl, hp, P, al, M, _, _, _, rs.toRS0.here, .cons r2 (.cons r1 .nil), h, fun d M' v H' P' al' e r0 r q => ?_, fun _ _ _ _ _ _ _ _ _ _ _ _ q => q.elim⟩
    unfold retB at q
    split at q
    · cases r; exact ⟨_, rfl, L _ _ _ _ _ _ e (rs.step e (r0.rebase (rs.base.trans e))) (.bl _) q⟩
    · exact q.elim
  · exact h.elim
theorem inO_use {g : Bool → Bool} {M : Mt} {x y : D} {R : D → Mt → Prop} {fs : List (Str × D)} (hy : viewD M y = .obj n fs) (h : sp [y, x] M (retB fun b M' => R (.bl (g b)) M') fun _ _ _ => False) : oInO n sp g x y M R := by
  unfold oInO; rw [hy]; exact ⟨⟨rfl⟩, h⟩
/-- data in a list or a tuple -/
def rInC (K : PySem.W.Frag) : R2 := fun x y H Q => ∃ d ds, Dp K H x d ∧ (Dp K H y (.list ds) ∨ Dp K H y (.tuple ds)) ∧ SeqAt.shaped d = true ∧ SeqAt.shaped (.list ds) = true ∧ Q (.bl (ds.any fun z => PyData.eqv z d)) H
def rNotInC (K : PySem.W.Frag) : R2 := fun x y H Q => ∃ d ds, Dp K H x d ∧ (Dp K H y (.list ds) ∨ Dp K H y (.tuple ds)) ∧ SeqAt.shaped d = true ∧ SeqAt.shaped (.list ds) = true ∧ Q (.bl (!ds.any fun z => PyData.eqv z d)) H
theorem op_inC (hu : X.A.units + 65 < cLine) : OpR X (compareOp .In) (rInC X.K) := by
  intro pins s σ H x y v u Q I rx ry h
  obtain ⟨d, ds, hd, he | he, sd, se, q⟩ := h
  · obtain ⟨as, r1⟩ := Dp.reads I d x v hd rx
    obtain ⟨bs, r2⟩ := Dp.reads I (.list ds) y u he ry
    exact SeqAt.in_list_reads r2 r1 (SeqAt.canLay_of_shaped se) (SeqAt.canLay_of_shaped sd) (room_in_shaped sd hu) ⟨.bl _, H, I, rfl, q⟩
  · obtain ⟨as, r1⟩ := Dp.reads I d x v hd rx
    obtain ⟨bs, r2⟩ := Dp.reads I (.tuple ds) y u he ry
    exact SeqAt.in_tuple_reads r2 r1 (SeqAt.canLay_of_shaped se) (SeqAt.canLay_of_shaped sd) (room_in_shaped sd hu) ⟨.bl _, H, I, rfl, q⟩
theorem op_notInC (hu : X.A.units + 65 < cLine) : OpR X (compareOp .NotIn) (rNotInC X.K) := by
  intro pins s σ H x y v u Q I rx ry h
  obtain ⟨d, ds, hd, he | he, sd, se, q⟩ := h
  · obtain ⟨as, r1⟩ := Dp.reads I d x v hd rx
    obtain ⟨bs, r2⟩ := Dp.reads I (.list ds) y u he ry
    exact SeqAt.notIn_list_reads r2 r1 (SeqAt.canLay_of_shaped se) (SeqAt.canLay_of_shaped sd) (room_in_shaped sd hu) ⟨.bl _, H, I, rfl, q⟩
  · obtain ⟨as, r1⟩ := Dp.reads I d x v hd rx
    obtain ⟨bs, r2⟩ := Dp.reads I (.tuple ds) y u he ry
    exact SeqAt.notIn_tuple_reads r2 r1 (SeqAt.canLay_of_shaped se) (SeqAt.canLay_of_shaped sd) (room_in_shaped sd hu) ⟨.bl _, H, I, rfl, q⟩
@[irreducible] def oInC (neg : Bool) : WO2 := fun x y M R => match toP (viewD M x), seqD (viewD M y) with
  | some p, some l => (match toPs l with
    | some ps => Need (SeqAt.shaped p = true) ∧ Need (SeqAt.shaped (.list ps) = true) ∧ R (.bl (if neg then !(ps.any fun z => PyData.eqv z p) else ps.any fun z => PyData.eqv z p)) M
    | none => False)
  | _, _ => False
theorem seq_dp {K : PySem.W.Frag} {P : Hp} {al : List Addr} {M : Mt} {H : Hp} {d : D} {v : V} {l : List D} {ps : List PyData} (rs : RS0 K B P al M H) (r : Rep K P al d v) (e : seqD (viewD M d) = some l) (h : toPs l = some ps) : Dp K H v (.list ps) ∨ Dp K H v (.tuple ps) := by
  cases hv : viewD M d <;> rw [hv] at e <;> simp [seqD] at e
  all_goals subst e
  · exact .inr (view_dp rs r (by rw [hv]; simp [toP, h]))
  · exact .inl (view_dp rs r (by rw [hv]; simp [toP, h]))
  · exact .inl (view_dp rs r (by rw [hv]; simp [toP, h]))
theorem inC_core {K : PySem.W.Frag} {neg : Bool} {P : Hp} {al : List Addr} {M : Mt} {env : Ev} {σ : L2.St} {H : Hp} {x y : V} {dx dy : D} {R : D → Mt → Prop} {Q : VK} (rs : RS K B P al M env σ H) (r1 : Rep K P al dx x) (r2 : Rep K P al dy y) (h : oInC neg dx dy M R) (L : Lift K B P al env σ H R Q) :
    ∃ d ds, Dp K H x d ∧ (Dp K H y (.list ds) ∨ Dp K H y (.tuple ds)) ∧ SeqAt.shaped d = true ∧ SeqAt.shaped (.list ds) = true ∧ Q (.bl (if neg then !(ds.any fun z => PyData.eqv z d) else ds.any fun z => PyData.eqv z d)) H := by
  unfold oInC at h
  split at h
  · rename_i p l hp hl
    split at h
    · rename_i ps hps
      exact ⟨p, ps, view_dp rs.toRS0 r1 hp, seq_dp rs.toRS0 r2 hl hps, h.1.out, h.2.1.out, L.here rs (.bl _) h.2.2⟩
    · exact h.elim
  · exact h.elim
theorem oInC_ok {K : PySem.W.Frag} : OpD K B (rInC K) (oInC false) := fun P al M env σ H x y dx dy R Q rs r1 r2 h L => inC_core rs r1 r2 h L
theorem oNotInC_ok {K : PySem.W.Frag} : OpD K B (rNotInC K) (oInC true) := fun P al M env σ H x y dx dy R Q rs r1 r2 h L => inC_core rs r1 r2 h L
theorem inC_use {neg : Bool} {x y : D} {l : List D} {p : PyData} {ps : List PyData} {M : Mt} {R : D → Mt → Prop} (hx : toP (viewD M x) = some p) (hy : seqD (viewD M y) = some l) (hps : toPs l = some ps) (s1 : SeqAt.shaped p = true) (s2 : SeqAt.shaped (.list ps) = true) (k : R (.bl (if neg then !(ps.any fun z => PyData.eqv z p) else ps.any fun z => PyData.eqv z p)) M) : oInC neg x y M R := by
  unfold oInC
  simp only [hx, hy, hps]; exact ⟨⟨s1⟩, ⟨s2⟩, k⟩
end
end L3


namespace L3
open PySem PySem.Spec PyProof.Rows L2 Builtin
theorem starcall1_of {M : Model} {A : Around} {E : Value → Shared → Prop} {s : Shared} {env : Env} {o e2 : Expr} {m : Str} {p apos pos : Pos} {Q : Value → Shared → Prop} (hbase : attributeBase o m env (eval o env) = eval o env)
    (hst : starEach [.Starred e2 p] env = [(true, eval e2 env)])
    (h : wpAny M A (eval o env) (fun ov s₁ => wpAny M A (getAttr ov m true) (fun f s₂ => wpAny M A (callWith pos f [] (backTo pos [(true, eval e2 env)]) []) Q E s₂) E s₁) E s) :
    wpAny M A (eval (.Call (.Attribute o m apos) [.Starred e2 p] [] pos) env) Q E s := by
  have hke : backToKw pos (keywordEach [] env) = [] := rfl
  have hform : methodCallForm ([Expr.Starred e2 p].length + ([] : List Keyword).length) (backTo pos [(true, eval e2 env)]) [] = false := rfl
  have hpos : methodCallPos false o env apos pos = pure pos := rfl
  have hcal : ∀ ov, calleeOf false o env ov m = (getAttr ov m true >>= fun v => pure (v, [])) := fun _ => rfl
  rw [arm_eval_Call, hbase, hst, hke]
  refine wpAny_bind (wpAny_mono h (fun ov s₁ h₁ => ?_) fun _ _ x => x)
  refine wpAny_bind (wpAny_standAt ?_)
  unfold methodCall
  rw [hform, hpos, hcal]
  refine wpAny_bind (wpAny_holding (wpAny_bind (wpAny_mono h₁ (fun f s₂ h₂ => wpAny_pure ?_) fun _ _ x => x)))
  exact wpAny_bind (wpAny_pure h₂)
def tMethS1 (K : PySem.W.Frag) (C : Addr) (m : Str) (g : Addr) (sp : Sp) (E : L2.St → XK) (ta t2 : TE) : TE := fun σ H Q => ta σ H fun x H1 => ∃ a dx fs, x = .ref a ∧ H1 a = some (.ins C dx fs) ∧ fs.lookup m = none ∧
  ∀ q, H1 q = none → t2 σ (upd H1 q (.met g a)) fun y2 H3 => ∃ b vs, y2 = .ref b ∧ (SqT K H3 b vs ∨ SqL K H3 b vs) ∧ H3 q = some (.met g a) ∧ sp (.ref a :: vs) H3 Q (E σ)
theorem pe_methS1 {X : Cx} {CX : CXT} {k : Nat} {C g : Addr} {m : Str} {sp : Sp} {E : L2.St → XK} {o e2 : Expr} {ta t2 : TE} {p apos pos : Pos} (he : PE X o ta) (c : Cls X.K C) (b : BMeth X.K C m g) (F : FnR X.prog X.w X.K X.mg X.base CX k g sp) (hr : Room k X.A)
    (hx : ∀ σ, PassesAt CX X σ (E σ)) (h2 : PE X e2 t2) (hbase : attributeBase o m X.env (eval o X.env) = eval o X.env := by rfl)
    (hst : starEach [.Starred e2 p] X.env = [(true, eval e2 X.env)] := by rfl) : PE X (.Call (.Attribute o m apos) [.Starred e2 p] [] pos) (tMethS1 X.K C m g sp E ta t2) := by
  refine ⟨fun pins s σ H Q I h => ?_⟩
  refine starcall1_of hbase hst (thn (he.run pins s σ H _ I h) fun u s1 ⟨x, H1, I1, rx, a, dx, fs, ex, ea, l, q⟩ => ?_)
  subst ex
  obtain rfl : u = Value.ref a := rx
  refine getbound_ok I1 ea c b l fun q1 s2 hq1 I2 => ?_
  refine PySem.W.ks_call (P := PySem.W.MethP X.K q1 g (.ref a)) rfl (PySem.W.keeps_M b.fi) (PySem.W.ks_lone (thn (h2.run pins s2 σ _ _ I2 (q q1 hq1)) fun v2 s4 ⟨y2, H3, I4, ry2, t, vs, ey, ht, hm, hsp⟩ => ?_))
  subst ey
  obtain rfl : v2 = Value.ref t := ry2
  refine StX.star_any I4 ht fun us s5 I5 rv => ?_
  show PySem.W.MethP X.K q1 g (.ref a) s5.heap ∧ wpAny (model X.prog X.w) X.A (call (.ref q1) us []) (EP X pins σ Q) X.xe s5
  exact ⟨met_P I5 hm, wpAny_call (PySem.W.method_call (met_P I5 hm).1 (run_at (us := Value.ref a :: us) (vs := V.ref a :: vs) F hr (hx σ) I5 (.cons rfl rv) hsp))⟩
section
variable {X : Cx} {B : Bs} {CX : CXT} {k : Nat} {f C : Addr} {n m : Str} {sp : DSp} {o e : Expr} {wo we : WE} {RX : RXe} {p apos pos : Pos}
/-- o.m(*y) -/
theorem d_methS (ca : ClsAt X.K n C) (cl : Cls X.K C) (b : BMeth X.K C m f) (F : FnR X.prog X.w X.K X.mg X.base CX k f (toSp X.K sp)) (hr : Room k X.A) (hx : Rz X B CX RX) (ho : DE B X o wo) (he : DE B X e we)
    (hbase : attributeBase o m X.env (eval o X.env) = eval o X.env := by rfl) (hst : starEach [.Starred e p] X.env = [(true, eval e X.env)] := by rfl) : DE B X (.Call (.Attribute o m apos) [.Starred e p] [] pos) (wMeth n m sp RX wo (wStar we wNil)) := by
  refine (pe_methS1 ho cl b F hr hx he hbase hst).imp fun σ H Q => ?_
  rintro ⟨P, al, M, env, R, rs, hw, L⟩
  refine ⟨P, al, M, env, _, rs, hw, fun d M1 v H1 P1 al1 e1 rs1 r1 q => ?_⟩
  split at q
  · rename_i n' fs ev
    obtain ⟨hn, q⟩ := q
    obtain ⟨hn, hl⟩ := hn.out
    subst hn
    obtain ⟨a, C', dx, xs, rfl, ha, hc, hf⟩ := view_obj rs1.toRS0 r1 ev
    obtain rfl := ca.one hc
    refine ⟨a, dx, xs, rfl, ha, hf.lack hl, fun z hz => ?_⟩
    obtain ⟨e2, r2⟩ := rs1.toRS0.alloc hz (.met f a)
    refine ⟨_, al1, M1, env, _, rs1.step e2 r2, q, fun d2 M2 v2 H2 P3 al3 e3 rs3 r3 q3 => ?_⟩
    split at q3
    · rename_i l hl2
      have q4 : sp (d :: (l ++ [])) M2 R fun n fs M' => RX n fs env M' := q3
      rw [List.append_nil] at q4
      obtain ⟨b2, ys, rfl, h1, h2⟩ := view_seq rs3.toRS0 r3 hl2
      exact ⟨b2, ys, rfl, h1.symm, rs3.same _ _ (e3.pp _ _ upd_same), sp_at rs3 (.cons (r1.mono (e2.trans e3).pp (e2.trans e3).pre) h2) (L.after (e1.trans (e2.trans e3))) q4⟩
    · exact q3.elim
  · exact q.elim
/-- f(..), f a def that may raise, where it does not -/
theorem d_callN {fd : FuncData} {ps : List Str} {x : Str} {dvs : List V} {dds : List D} {ds : List Value} {es : List Expr} {was : WA} (F : FnOk X.prog X.w X.K X.mg X.base CX k f fd ps (toSp X.K sp)) (hr : Room k X.A) (hx : Rz X B CX RXn) (hg : Gl X x) (hm : X.mg x = some (.ref f)) (hk : PySem.W.keepIn X.K (.ref f) = true) (hb : Binds X.K fd ps ds) (hd : Vals dvs ds) (hdd : ∀ P al, Reps X.K P al dds dvs) (ha : DA B X (e :: es) was)
    (hdb : (x == ("__debug__" : Str)) = false := by decide) (hs : starEach (e :: es) X.env = (false, eval e X.env) :: starEach es X.env := by rfl) (hpl : (backTo pos (starEach es X.env)).any (·.1) = false := by rfl) : DE B X (.Call (.Name x p) (e :: es) [] pos) (wCallX sp dds RXn was) := by
  refine (pe_callSD F hr hg hm hk hb hd hx ha hdb hs hpl).imp fun σ H Q => ?_
  rintro ⟨P, al, M, env, R, rs, hw, L⟩
  exact ⟨P, al, M, env, _, rs, hw, fun ds M1 vs H1 P1 al1 e1 rs1 r1 q => sp_at rs1 (r1.append (hdd _ _)) (L.after e1) q⟩
theorem pe_mkAS {sp : Sp} {E : L2.St → XK} {t : TA} {x : Str} {es : List Expr} (M : Mk X.K C f) (F : FnR X.prog X.w X.K X.mg X.base CX k f sp) (hr : Room (k + 1) X.A) (hx : ∀ σ, PassesAt CX X σ (E σ)) (hg : Gl X x) (hm : X.mg x = some (.ref C)) (ha : PA X (e :: es) t) (hdb : (x == ("__debug__" : Str)) = false := by decide)
    (he : starEach (e :: es) X.env = (false, eval e X.env) :: starEach es X.env := by rfl) (hst : (backTo pos (starEach es X.env)).any (·.1) = true := by rfl) : PE X (.Call (.Name x p) (e :: es) [] pos) (tMkA C sp E t) :=
  ⟨fun pins s σ H Q I h => wpAny_Call_Name_kw (ld_glob I hg hm (PySem.W.callWith_S2 (h₀ := X.base) I.ok.mod.kin M.kp (thn (ha.run pos pins s σ H _ I h) fun us s1 ⟨vs, H1, I1, r, q⟩ => ⟨I1.kIn, make_at M F hr (hx σ) I1 r q⟩) he hst) hdb)⟩
/-- C(e, .., *y) -/
theorem d_mkG {x : Str} {es : List Expr} {was : WA} (ca : ClsAt X.K n C) (Mc : Mk X.K C f) (F : FnR X.prog X.w X.K X.mg X.base CX k f (toSp X.K sp)) (hr : Room (k + 1) X.A) (hx : Rz X B CX RX) (hg : Gl X x) (hm : X.mg x = some (.ref C)) (ha : DA B X (e :: es) was) (hdb : (x == ("__debug__" : Str)) = false := by decide)
    (he : starEach (e :: es) X.env = (false, eval e X.env) :: starEach es X.env := by rfl) (hst : (backTo pos (starEach es X.env)).any (·.1) = true := by rfl) : DE B X (.Call (.Name x p) (e :: es) [] pos) (wMk n sp RX was) := by
  refine (pe_mkAS Mc F hr hx hg hm ha hdb he hst).imp fun σ H Q => ?_
  rintro ⟨P, al, M, env, R, rs, hw, L⟩
  exact ⟨P, al, M, env, _, rs, hw, fun ds M1 vs H1 P1 al1 e1 rs1 r1 q x dx hx hd ne => mk_sp ca rs1 r1 (L.after e1) hx hd ne (fun _ _ h => ⟨h.1, .inr h.2⟩) q⟩
end
end L3

namespace L3
open PySem PySem.Spec PyProof.Rows L2
/-! ### a comprehension over the keys of a dict that changes elsewhere: the dict is locked meanwhile -/
section
variable {K : PySem.W.Frag} {P P' : Hp} {al : List Addr}
/-- all but a locked dict -/
def NoLk (x : HO) : Prop := ∀ o kvs, x ≠ .frz o (.dK kvs)
def SameX (P P' : Hp) : Prop := ∀ b x, P b = some x → NoLk x → P' b = some x
theorem SameX.seqT {a : Addr} {xs : List V} (e : SameX P P') (h : SqT K P a xs) : SqT K P' a xs := by
  rcases h with h | h
  · rcases h with h | ⟨o, h⟩
    · exact .inl (.inl (e _ _ h fun _ _ z => nomatch z))
    · exact .inl (.inr ⟨o, e _ _ h fun _ _ z => nomatch z⟩)
  · exact .inr h
theorem SameX.seq {a : Addr} {xs : List V} (e : SameX P P') (h : SqL K P a xs) : SqL K P' a xs := by
  rcases h with h | h
  · rcases h with h | ⟨o, h⟩
    · exact .inl (.inl (e _ _ h fun _ _ z => nomatch z))
    · exact .inl (.inr ⟨o, e _ _ h fun _ _ z => nomatch z⟩)
  · exact .inr h
theorem SameX.sqp {a : Addr} {xs : List V} (e : SameX P P') (h : SqP P a xs) : SqP P' a xs := let ⟨o, h, d⟩ := h; ⟨o, e _ _ h (fun _ _ z => nomatch z), d⟩
mutual
/-- no dict that is locked for good -/
def noF : D → Bool
  | .tup l => noFs l
  | .ptp l => noFs l
  | .lst l => noFs l
  | .rol l => noFs l
  | .dct l => noFK l
  | .obj _ l => noFF l
  | .fdc _ => false
  | _ => true
def noFs : List D → Bool
  | [] => true
  | d :: r => noF d && noFs r
def noFK : List (Key × D) → Bool
  | [] => true
  | (_, d) :: r => noF d && noFK r
def noFF : List (Str × D) → Bool
  | [] => true
  | (_, d) :: r => noF d && noFF r
end
mutual
theorem Rep.lk (s : SameX P P') : ∀ {d : D} {v : V}, Rep K P al d v → noF d = true → Rep K P' al d v
  | _, _, .non, _ => .non
  | _, _, .bl b, _ => .bl b
  | _, _, .int i, _ => .int i
  | _, _, .str x, _ => .str x
  | _, _, .ty n, _ => .ty n
  | _, _, .adr a, _ => .adr a
  | _, _, .tup q r, e => .tup (s.seqT q) (Reps.lk s r (by simpa [noF] using e))
  | _, _, .ptp q r, e => .ptp (s.sqp q) (Reps.lk s r (by simpa [noF] using e))
  | _, _, .lst q r, e => .lst (s _ _ q fun _ _ z => nomatch z) (Reps.lk s r (by simpa [noF] using e))
  | _, _, .rol q r, e => .rol (s.seq q) (Reps.lk s r (by simpa [noF] using e))
  | _, _, .dct q r, e => .dct (s _ _ q fun _ _ z => nomatch z) (RepKs.lk s r (by simpa [noF] using e))
  | _, _, .fdc q r, e => by simp [noF] at e
  | _, _, .obj q c r, e => .obj (s _ _ q fun _ _ z => nomatch z) c (RepFs.lk s r (by simpa [noF] using e))
  | _, _, .cls c, _ => .cls c
  | _, _, .cel e, _ => .cel e
theorem Reps.lk (s : SameX P P') : ∀ {ds : List D} {vs : List V}, Reps K P al ds vs → noFs ds = true → Reps K P' al ds vs
  | _, _, .nil, _ => .nil
  | _, _, .cons r t, e => .cons (Rep.lk s r (by simp [noFs] at e; exact e.1)) (Reps.lk s t (by simp [noFs] at e; exact e.2))
theorem RepKs.lk (s : SameX P P') : ∀ {ds : List (Key × D)} {vs : List (Key × V)}, RepKs K P al ds vs → noFK ds = true → RepKs K P' al ds vs
  | _, _, .nil, _ => .nil
  | _, _, .cons r t, e => .cons (Rep.lk s r (by simp [noFK] at e; exact e.1)) (RepKs.lk s t (by simp [noFK] at e; exact e.2))
theorem RepFs.lk (s : SameX P P') : ∀ {ds : List (Str × D)} {vs : List (Str × V)}, RepFs K P al ds vs → noFF ds = true → RepFs K P' al ds vs
  | _, _, .nil, _ => .nil
  | _, _, .cons r t, e => .cons (Rep.lk s r (by simp [noFF] at e; exact e.1)) (RepFs.lk s t (by simp [noFF] at e; exact e.2))
end
theorem ExCell.lk {l : List D} {a : Addr} (s : SameX P P') (c : ExCell K P al l a) (e : noFs l = true) : ExCell K P' al l a := by
  unfold ExCell at c ⊢
  split at c
  · obtain ⟨C, d, oe, h1, h2, h3, h4, h5⟩ := c
    refine ⟨C, d, oe, s _ _ h1 (fun _ _ z => nomatch z), h2, h3, h4, ?_⟩
    rcases h5 with h5 | ⟨dd, gs, g1, g2, g3⟩
    · exact .inl h5
    · exact .inr ⟨dd, gs, g1, s _ _ g2 (fun _ _ z => nomatch z), g3.lk s (by simpa [noFs, noF] using e)⟩
  · trivial
theorem Cell.lk {m : D} {b : Addr} {H H' : Hp} (s : SameX P P') (c : Cell K P al m b H) (nf : noF m = true) (hp : live m = true → P' b = none) (hh : live m = true → H' b = H b) : Cell K P' al m b H' := by
  cases m <;> first | trivial | skip
  · exact ExCell.lk s c (by simpa [noF] using nf)
  · obtain ⟨h1, xs, h2, h3⟩ := c; exact ⟨hp rfl, xs, by rw [hh rfl]; exact h2, h3.lk s (by simpa [noF] using nf)⟩
  · obtain ⟨h1, xs, h2, h3⟩ := c; exact ⟨hp rfl, xs, by rw [hh rfl]; exact h2, h3.lk s (by simpa [noF] using nf)⟩
  · obtain ⟨h1, C, dx, gs, h2, h4, h3⟩ := c; exact ⟨hp rfl, C, dx, gs, by rw [hh rfl]; exact h2, h4, h3.lk s (by simpa [noF] using nf)⟩
/-- the cell n, a dict, is locked -/
theorem RS0.lock {B : Bs} {M : Mt} {H : Hp} {n : Nat} {ks : List (Key × D)} {a : Addr} {kvs : List (Key × V)} {od : Obj} (rs : RS0 K B P al M H) (hn : M[n]? = some (.dct ks)) (ha : al[n]? = some a) (hp : P a = none) (hk : H a = some (.dK kvs)) :
    Ext P al H (upd P a (.frz od (.dK kvs))) al (upd H a (.frz od (.dK kvs))) ∧ RS0 K B (upd P a (.frz od (.dK kvs))) al (M.set n .non) (upd H a (.frz od (.dK kvs))) := by
  have ia : a ∈ al := List.mem_of_getElem? ha
  have sm : Same P (upd P a (.frz od (.dK kvs))) := fun b x h => by rw [upd_ne (ne_of_none h hp)]; exact h
  have e : Ext P al H (upd P a (.frz od (.dK kvs))) al (upd H a (.frz od (.dK kvs))) := ⟨sm, List.prefix_refl _, fun b x h m => by rw [upd_ne (fun z => m (by rw [z]; exact ia))]; exact h, fun b m k => absurd m k, fun b x h _ hb k => by
    rw [upd_ne (fun z => k (by rw [z]; exact ia))]; exact hb⟩
  have im : n < M.length := (List.getElem?_eq_some_iff.mp hn).1
  have gm : ∀ (j : Nat) (m : D), (M.set n .non)[j]? = some m → live m = true → j ≠ n ∧ M[j]? = some m := fun j m h ln => by
    by_cases hj : j = n
    · subst hj; rw [List.getElem?_set_self im] at h; cases h; cases ln
    · rw [List.getElem?_set_ne (Ne.symm hj)] at h; exact ⟨hj, h⟩
  refine ⟨e, ⟨rs.base.trans e, fun b x h => ?_, by simp [rs.len], fun j b m h1 h2 => ?_, fun j k b m m' h1 h2 h3 h4 l1 l2 => ?_, fun b hb => ?_⟩⟩
  · by_cases hb : b = a
    · subst hb; rw [upd_same] at h ⊢; exact h
    · rw [upd_ne hb] at h ⊢; exact rs.same _ _ h
  · by_cases ln : live m = true
    · obtain ⟨hj, g⟩ := gm j m h2 ln
      have c' := rs.cell j b m h1 g
      have hne : b ≠ a := fun z => hj (rs.inj j n a m _ (z ▸ h1) ha g hn ln rfl)
      exact c'.mono sm (List.prefix_refl _) (fun _ => by rw [upd_ne hne]; exact (live_cell ln c').1) fun _ _ h => by rw [upd_ne hne]; exact h
    · cases m <;> first | trivial | exact absurd rfl ln | skip
      have hj : j ≠ n := fun z => by subst z; rw [List.getElem?_set_self im] at h2; cases h2
      rw [List.getElem?_set_ne (Ne.symm hj)] at h2
      exact ExCell.mono (rs.cell j b _ h1 h2) sm (List.prefix_refl _)
  · obtain ⟨_, g3⟩ := gm j m h3 l1
    obtain ⟨_, g4⟩ := gm k m' h4 l2
    exact rs.inj j k b m m' h1 h2 g3 g4 l1 l2
  · by_cases hz : b = a
    · rw [hz, upd_same]; exact ⟨_, rfl⟩
    · rw [upd_ne hz]; exact rs.trk b hb
/-- all that is published but what stands at a -/
def cutP (P : Hp) (a : Addr) : Hp := fun b => if b = a then none else P b
theorem cutP_ne {a b : Addr} (h : b ≠ a) : cutP P a b = P b := if_neg h
theorem cutP_at {a : Addr} : cutP P a a = none := if_pos rfl
/-- .. and unlocked -/
theorem RS0.unlock {B : Bs} {M M2 : Mt} {H H2 P2 : Hp} {al2 : List Addr} {n : Nat} {ks : List (Key × D)} {a : Addr} {kvs : List (Key × V)} {od : Obj} (rs : RS0 K B P al M H) (hn : M[n]? = some (.dct ks)) (ha : al[n]? = some a) (hp : P a = none) (hk : H a = some (.dK kvs)) (rk : RepKs K P al ks kvs)
    (e : Ext (upd P a (.frz od (.dK kvs))) al (upd H a (.frz od (.dK kvs))) P2 al2 H2) (rs2 : RS0 K B P2 al2 M2 H2) (h2 : M2[n]? = some .non) (nf : M2.all noF = true) :
    Ext P al H (cutP P2 a) al2 (upd H2 a (.dK kvs)) ∧ RS0 K B (cutP P2 a) al2 (M2.set n (.dct ks)) (upd H2 a (.dK kvs)) ∧ SameX P2 (cutP P2 a) ∧ H2 a = some (.frz od (.dK kvs)) := by
  have ia : a ∈ al := List.mem_of_getElem? ha
  have p2 : P2 a = some (.frz od (.dK kvs)) := e.pp _ _ upd_same
  have sx : SameX P2 (cutP P2 a) := fun b x h nl => by
    by_cases hb : b = a
    · rw [hb, p2] at h; cases h; exact absurd rfl (nl od kvs)
    · rw [cutP_ne hb]; exact h
  have sm : Same P (cutP P2 a) := fun b x h => by
    have hb : b ≠ a := ne_of_none h hp
    rw [cutP_ne hb]; exact e.pp _ _ (by rw [upd_ne hb]; exact h)
  have ef : Ext P al H (cutP P2 a) al2 (upd H2 a (.dK kvs)) := ⟨sm, e.pre, fun b x h m => by
      have hb : b ≠ a := fun z => m (z ▸ ia)
      rw [upd_ne hb]; exact e.fr _ _ (by rw [upd_ne hb]; exact h) m, fun b m k => by
      have hb : b ≠ a := fun z => k (z ▸ ia)
      have := e.new b m k
      rw [upd_ne hb] at this; exact this, fun b x h ho hb k => by
      have hz : b ≠ a := fun z => k (z ▸ ia)
      rw [cutP_ne hz]; exact e.pn b x (by rw [upd_ne hz]; exact h) ho (by rw [upd_ne hz]; exact hb) k⟩
  have im : n < M2.length := (List.getElem?_eq_some_iff.mp h2).1
  have a2 : al2[n]? = some a := pre_get e.pre ha
  have ln2 : ∀ (j : Nat) (m : D) (b : Addr), al2[j]? = some b → M2[j]? = some m → live m = true → b ≠ a := fun j m b h1 h3 l z => by
    have := (live_cell l (rs2.cell j b m h1 h3)).1
    rw [z, p2] at this; cases this
  refine ⟨ef, ⟨rs.base.trans ef, fun b x h => ?_, by simp [rs2.len], fun j b m h1 h3 => ?_, fun j k b m m' h1 h3 h4 h5 l1 l2 => ?_, fun b hb => ?_⟩, sx, rs2.same _ _ p2⟩
  · by_cases hb : b = a
    · rw [hb, cutP_at] at h; cases h
    · rw [cutP_ne hb] at h; rw [upd_ne hb]; exact rs2.same _ _ h
  · by_cases hj : j = n
    · subst hj
      rw [List.getElem?_set_self im] at h3; cases h3
      rw [a2] at h1; cases h1
      exact ⟨cutP_at, kvs, upd_same, rk.mono sm e.pre⟩
    · rw [List.getElem?_set_ne (Ne.symm hj)] at h3
      have c := rs2.cell j b m h1 h3
      by_cases l : live m = true
      · have hb := ln2 j m b h1 h3 l
        exact c.lk sx (List.all_eq_true.mp nf m (List.mem_of_getElem? h3)) (fun _ => by rw [cutP_ne hb]; exact (live_cell l c).1) fun _ => upd_ne hb
      · cases m <;> first | trivial | exact absurd rfl l | exact ExCell.lk sx c (by simpa [noF] using List.all_eq_true.mp nf _ (List.mem_of_getElem? h3))
  · by_cases hj : j = n
    · subst hj
      rw [a2] at h1; cases h1
      by_cases hk : k = j
      · exact hk.symm
      · rw [List.getElem?_set_ne (Ne.symm hk)] at h5
        exact absurd rfl (ln2 k m' a h3 h5 l2)
    · rw [List.getElem?_set_ne (Ne.symm hj)] at h4
      by_cases hk : k = n
      · subst hk
        rw [a2] at h3; cases h3
        exact absurd rfl (ln2 j m a h1 h4 l1)
      · rw [List.getElem?_set_ne (Ne.symm hk)] at h5
        exact rs2.inj j k b m m' h1 h3 h4 h5 l1 l2
  · by_cases hz : b = a
    · rw [hz, upd_same]; exact ⟨_, rfl⟩
    · rw [upd_ne hz]; exact rs2.trk b hb
/-- the keys of the locked dict -/
theorem walk_keysD {a : Addr} {od : Obj} {kvs : List (Key × V)} {ks : List (Key × D)} (hp : P a = some (.frz od (.dK kvs))) {P0 : Hp} (rk : RepKs K P0 al ks kvs) : Walk K (Itk a od kvs) (ks.map fun p => kD p.1) P al := by
  intro B P2 al2 M2 H2 s p r0
  have h2 : H2 a = some (.frz od (.dK kvs)) := r0.same _ _ (s _ _ hp)
  have hl : ks.length = kvs.length := rk.len
  refine ⟨fun i d hd => ?_, ⟨h2, by rw [List.length_map]; omega⟩⟩
  have hi : i < ks.length := by have := (List.getElem?_eq_some_iff.mp hd).1; rwa [List.length_map] at this
  refine ⟨⟨h2, by omega⟩, fun x H3 ⟨eh, k, v, hk, ex⟩ => ⟨P2, ?_⟩⟩
  subst eh; subst ex
  have rr := kD_rep rk
  obtain ⟨y, hy, ry⟩ := rr.get hd
  rw [List.getElem?_map, hk] at hy
  have ey : y = kV k := by simpa using hy.symm
  rw [List.getElem?_map] at hd
  obtain ⟨q, hq, eq⟩ := Option.map_eq_some_iff.mp hd
  subst ey
  subst eq
  refine ⟨Ext.refl, r0, ?_⟩
  generalize q.1 = z at ry ⊢
  cases z with
  | inl i => cases k with
    | inl j => change Rep K P0 al (.int i) (.int j) at ry; cases ry; exact .int _
    | inr s => change Rep K P0 al (.int i) (.str s) at ry; cases ry
  | inr i => cases k with
    | inl j => change Rep K P0 al (.str i) (.int j) at ry; cases ry
    | inr s => change Rep K P0 al (.str i) (.str s) at ry; cases ry; exact .str _
end
section
variable {K : PySem.W.Frag} {B : Bs}
/-- [.. for n in d], d a local name's dict that changes elsewhere -/
def wLcK (j : Nat) (is : List Nat) (t : WTs) (we : WE) (vs : List Nat) : WE := fun env M R => match env[j]? with
  | some (some (.cel n)) => match M[n]? with
    | some (.dct ks) => lcL is t we vs env (ks.map fun p => kD p.1) [] (M.set n .non) fun acc M2 => Need (M2[n]? = some .non ∧ M2.all noF = true ∧ noFs acc = true) ∧ R (.lst acc) (M2.set n (.dct ks))
    | _ => False
  | _ => False
theorem lc_impK {g : TG} {j : Nat} {is vs : List Nat} {t : WTs} {we : WE} (bn : Binds1 K g is vs) {P : Hp} {al : List Addr} {M : Mt} {env : Ev} {σ : L2.St} {H : Hp} {R : D → Mt → Prop} {Q : VK}
    (rs : RS K B P al M env σ H) (hw : wLcK j is t we vs env M R) (L : Lift K B P al env σ H R Q) :
    ∃ d u, H d = some u ∧ Mut (some u) ∧ ∀ od, tLc (iKeys (tD K B (wVar j))) g (tDT K B t) (tD K B we) vs σ (upd H d (.frz od u)) fun v H' => H' d = some (.frz od u) ∧ Q v (upd H' d u) := by
  unfold wLcK at hw
  split at hw
  · rename_i n hj
    split at hw
    · rename_i ks hm
      obtain ⟨v0, hv0, rv0⟩ := rs.slot _ _ hj
      obtain ⟨a, rfl, ha, hpa, kvs, hka, rk⟩ := cell_at rs.toRS0 hm rv0
      refine ⟨a, .dK kvs, hka, trivial, fun od => ?_⟩
      obtain ⟨el, rl⟩ := rs.toRS0.lock (od := od) hm ha hpa hka
      have rsl : RS K B (upd P a (.frz od (.dK kvs))) al (M.set n .non) env σ (upd H a (.frz od (.dK kvs))) := rs.step el rl
      refine ⟨_, al, M.set n .non, env, fun d M1 => d = .cel n ∧ M1 = M.set n .non, rsl, ?_, fun d M1 v H1 P1 al1 e1 rs1 rd q => ?_⟩
      · show wVar j env _ _
        unfold wVar
        rw [hj]
        exact ⟨rfl, rfl⟩
      · obtain ⟨rfl, rfl⟩ := q
        have ha1 : al1[n]? = some a := pre_get e1.pre ha
        obtain rfl : v = .ref a := by
          cases rd with
          | cel z => rw [ha1] at z; cases z; rfl
        have pa1 : P1 a = some (.frz od (.dK kvs)) := e1.pp _ _ upd_same
        refine ⟨a, od, rfl, .inl ⟨kvs, rs1.toRS0.same _ _ pa1, fun p hp => ?_⟩⟩
        have wk := walk_keysD (K := K) (al := al1) pa1 (rk.mono (P' := P1) (fun b x h => e1.pp _ _ (el.pp _ _ h)) e1.pre)
        generalize hds : (ks.map fun p => kD p.1) = ds at wk hw
        obtain ⟨hb, na⟩ := rs1.toRS0.fresh hp
        have np := rs1.toRS0.free hp
        refine ⟨fun i m H2 => m = ds.length - i ∧ i ≤ ds.length ∧ ∃ P2 al2 M2 acc av, Ext P1 al1 H1 P2 al2 H2 ∧ RS K B P2 al2 M2 env σ H2 ∧ P2 p = none ∧ p ∉ al2 ∧ H2 p = some (.lst av) ∧ Reps K P2 al2 acc av ∧ lcL is t we vs env (ds.drop i) acc M2 (fun acc M2 => Need (M2[n]? = some .non ∧ M2.all noF = true ∧ noFs acc = true) ∧ R (.lst acc) (M2.set n (.dct ks))),
          ⟨ds.length, by simp, Nat.zero_le _, P1, al1, _, [], [], Ext.refl.priv hp _, ⟨rs1.toRS0.priv np na hb _, rs1.slen, rs1.slot⟩, np, na, upd_same, .nil, hw⟩, ?_⟩
        rintro i m H2 ⟨rfl, hi, P2, al2, M2, acc, av, e2, rs2, np2, na2, hpv, racc, q2⟩
        obtain ⟨wk1, wk2⟩ := wk B P2 al2 M2 H2 e2.pp e2.pre rs2.toRS0
        by_cases hlt : i < ds.length
        · right
          have hd : ds[i]? = some ds[i] := List.getElem?_eq_getElem hlt
          rw [List.drop_eq_getElem_cons hlt] at q2
          obtain ⟨go, yl⟩ := wk1 i _ hd
          refine ⟨go, fun H' => ∃ P' al' M' acc' av', Ext P1 al1 H1 P' al' H' ∧ RS K B P' al' M' env σ H' ∧ P' p = none ∧ p ∉ al' ∧ H' p = some (.lst av') ∧ Reps K P' al' acc' av' ∧ lcL is t we vs env (ds.drop (i + 1)) acc' M' (fun acc M2 => Need (M2[n]? = some .non ∧ M2.all noF = true ∧ noFs acc = true) ∧ R (.lst acc) (M2.set n (.dct ks))), fun H' ⟨P', al', M', acc', av', x⟩ => ⟨ds.length - (i + 1), by omega, rfl, hlt, P', al', M', acc', av', x⟩, fun x H3 y => ?_⟩
          obtain ⟨P3, e3, r3, rx⟩ := yl x H3 y
          have rs3 := (rs2.step e3 r3)
          have keep : ∀ {Pa ala Ha Pb alb Hb w'}, Ext Pa ala Ha Pb alb Hb → Ha p = some (.lst w') → p ∉ ala → Pa p = none → Hb p = some (.lst w') ∧ p ∉ alb ∧ Pb p = none := fun {Pa ala Ha Pb alb Hb w'} e h n z =>
            ⟨e.fr _ _ h n, (fun m => by have := e.new _ m n; rw [h] at this; cases this), e.pn _ _ h ⟨fun _ u => (by cases u), fun _ u => (by cases u)⟩ z n⟩
          obtain ⟨hp3, na3, np3⟩ := keep e3 hpv na2 np2
          refine bn B P3 al2 M2 _ _ H3 _ x _ _ (rs3.wipe vs) rx q2 fun env4 σ4 rs4 hwp q4 => ⟨by rw [hwp, wipe_wipe], P3, al2, M2, env4, _, rs4, q4, fun b M5 H5 P5 al5 e5 rs5 q5 => ?_⟩
          obtain ⟨hp5, na5, np5⟩ := keep e5 hp3 na3 np3
          have e15 := e2.trans (e3.trans e5)
          have back : ∀ {P' al' M' H'}, Ext P3 al2 H3 P' al' H' → RS0 K B P' al' M' H' → RS K B P' al' M' env σ H' := fun {P' al' M' H'} e r => rs3.step e r
          cases b with
          | true =>
            rw [if_pos rfl]
            refine ⟨P5, al5, M5, env4, _, rs5, q5.1 rfl, fun y M6 v H6 P6 al6 e6 rs6 r6 q6 => ?_⟩
            obtain ⟨hp6, na6, np6⟩ := keep e6 hp5 na5 np5
            have racc6 := racc.mono (e3.trans (e5.trans e6)).pp (e3.trans (e5.trans e6)).pre
            refine ⟨av, hp6, by rw [← racc.length]; exact q6.1.out, P6, al6, M6, acc ++ [y], av ++ [v], (e15.trans e6).priv hp _, ?_, np6, na6, upd_same, racc6.append (.cons r6 .nil), q6.2⟩
            have r7 := back (e5.trans e6) rs6.toRS0
            exact ⟨r7.toRS0.priv np6 na6 hb _, r7.slen, r7.slot⟩
          | false =>
            rw [if_neg Bool.false_ne_true]
            exact ⟨P5, al5, M5, acc, av, e15, back e5 rs5.toRS0, np5, na5, hp5, racc.mono (e3.trans e5).pp (e3.trans e5).pre, q5.2 rfl⟩
        · left
          have ei : i = ds.length := by omega
          subst ei
          rw [List.drop_length] at q2
          obtain ⟨⟨hm2, nf2, nfa⟩, q2⟩ := q2
          refine ⟨wk2, ?_⟩
          have sm : Same P2 (upd P2 p (.lst av)) := fun b x h => by rw [upd_ne (ne_of_none h np2)]; exact h
          have e13 : Ext (upd P a (.frz od (.dK kvs))) al (upd H a (.frz od (.dK kvs))) (upd P2 p (.lst av)) al2 H2 := e1.trans (e2.pub hp np2 (.lst av))
          have r3 : RS0 K B (upd P2 p (.lst av)) al2 M2 H2 := rs2.toRS0.pub np2 na2 hb hpv
          have rp : Rep K (upd P2 p (.lst av)) al2 (.lst acc) (.ref p) := .lst upd_same (racc.mono sm (List.prefix_refl _))
          obtain ⟨ef, rf, sx, h2a⟩ := rs.toRS0.unlock hm ha hpa hka rk e13 r3 hm2 nf2
          exact ⟨h2a, L _ _ _ _ _ _ ef (rs.step ef rf) (rp.lk sx (by simpa [noF] using nfa)) q2⟩
    · exact hw.elim
  · exact hw.elim
end
section
variable {X : Cx} {B : Bs} {e : Expr} {tg elt : Expr} {ifs : List Expr} {scope : Scope} {own : List (Str × Nat)} {g : TG} {is : List Nat} {t : WTs} {we : WE} {pos spos py : Pos} {i j : Nat} {y : Str}
theorem d_lcK (hc : X.calm = true) (hN : X.N.Nodup) (hi : DE B X e (wVar j)) (ok : BlkOk X.N X.env.scope scope own)
    (hg : ∀ (s : Shared) (H : Hp) (C : Addr) (cl : List (Str × Addr)) (fp : List Addr), PG (X.blk s H scope (compEnvC scope cl C X.env) fp) tg g) (bn : Binds1 X.K g is (own.map (·.2)))
    (ht : ∀ (s : Shared) (H : Hp) (C : Addr) (cl : List (Str × Addr)) (fp : List Addr), DTs B (X.blk s H scope (compEnvC scope cl C X.env) fp) ifs t)
    (he : ∀ (s : Shared) (H : Hp) (C : Addr) (cl : List (Str × Addr)) (fp : List Addr), DE B (X.blk s H scope (compEnvC scope cl C X.env) fp) elt we) (hs : ∀ x, foldedSetIterable e X.env x = pure x := by intro _; rfl) :
    DE B X (.ListComp elt [⟨tg, e, ifs, 0⟩] scope pos) (wLcK j is t we (own.map (·.2))) := by
  refine (pe_lock (pe_lc (tt := tDT X.K B t) (te := tD X.K B we) hc hN (pi_keys hi) ok hg ht he hs)).imp fun σ H Q => ?_
  rintro ⟨P, al, M, env, R, rs, hw, L⟩
  exact lc_impK bn rs hw L
theorem d_setLcK (hc : X.calm = true) (hN : X.N.Nodup) (hy : X.N[i]? = some y) (hyl : X.env.scope.names.lookup y = some .local)
    (hsw : swapsWith (.ListComp elt [⟨tg, e, ifs, 0⟩] scope pos) (some (.Name y py)) spos.line X.env = pure true) (hi : DE B X e (wVar j)) (ok : BlkOk X.N X.env.scope scope own)
    (hg : ∀ (s : Shared) (H : Hp) (C : Addr) (cl : List (Str × Addr)) (fp : List Addr), PG (X.blk s H scope (compEnvC scope cl C X.env) fp) tg g) (bn : Binds1 X.K g is (own.map (·.2)))
    (ht : ∀ (s : Shared) (H : Hp) (C : Addr) (cl : List (Str × Addr)) (fp : List Addr), DTs B (X.blk s H scope (compEnvC scope cl C X.env) fp) ifs t)
    (he : ∀ (s : Shared) (H : Hp) (C : Addr) (cl : List (Str × Addr)) (fp : List Addr), DE B (X.blk s H scope (compEnvC scope cl C X.env) fp) elt we) (hs : ∀ x, foldedSetIterable e X.env x = pure x := by intro _; rfl) :
    DS B X (.Assign [.Name y py] (.ListComp elt [⟨tg, e, ifs, 0⟩] scope pos) spos) (wSetLc i (wLcK j is t we (own.map (·.2)))) := by
  refine (ps_lock (ps_setLc (i := i) (tt := tDT X.K B t) (te := tD X.K B we) hc hN hy hyl hsw (pi_keys hi) ok hg ht he hs)).imp fun D σ H => ?_
  rintro ⟨P, al, M, env, k, rs, hw, L⟩
  exact lc_impK (R := fun d M1 => k.nx (env.set i (some d)) M1) (Q := fun v H1 => D.nx (σ.set i (some v)) H1) bn rs hw fun d M1 v H1 P1 al1 e1 rs1 r1 q => L.nx _ _ _ _ _ _ e1 (rs1.put i r1) q
end
end L3

namespace L3
open PySem PySem.Spec PyProof.Rows L2
/-! ### o.p, p a property of an own class -/
section
variable {X : Cx} {B : Bs} {CX : CXT} {k : Nat} {f g p C : Addr} {sp : DSp} {n : Str} {e o i value : Expr} {we wo wi wv : WE} {pos pos' : Pos} {RX : RXe}
def wProp (n : Str) (sp : DSp) (RX : RXe) (we : WE) : WE := fun env M R => we env M fun x M1 => match viewD M1 x with
  | .obj n1 _ => Need (n1 = n) ∧ sp [x] M1 R fun nm fs M' => RX nm fs env M'
  | _ => False
theorem d_prop {q : Str} (ca : ClsAt X.K n C) (c : L2.Cls X.K C) (hp : L2.PropOf X.K C q p g) (F : FnR X.prog X.w X.K X.mg X.base CX k g (toSp X.K sp)) (hr : Room (k + 1) X.A) (hx : Rz X.nox B CX RXn) (he : DE B X e we)
    (hab : attributeBase e q X.env (eval e X.env) = eval e X.env := by rfl) : DE B X (.Attribute e q pos) (wProp n sp RXn we) := by
  refine ⟨fun pins s σ H Q I h => ?_⟩
  obtain ⟨P, al, M, env, R, rs, hw, L⟩ := h
  refine attr_of hab (thn (he.run pins s σ H (fun x H1 => ∃ a dx fs, x = .ref a ∧ H1 a = some (.ins C dx fs) ∧ toSp X.K sp [.ref a] H1 Q (L2.WE (WL X.K B RXn) σ)) I ⟨P, al, M, env, _, rs, hw, fun x M1 v H1 P1 al1 e1 rs1 r1 q => ?_⟩) fun u s1 ⟨x, H1, I1, rx, a, dx, fs, ex, ea, h⟩ => ?_)
  · split at q
    · rename_i n1 fs1 v1
      obtain ⟨hn, q⟩ := q
      have h1 := hn.out
      subst h1
      obtain ⟨p, dx, xs, rfl, hp⟩ := view_objOf ca rs1.toRS0 r1 v1
      exact ⟨p, dx, xs, rfl, hp, sp_at rs1 (.cons r1 .nil) (L.after e1) q⟩
    · exact q.elim
  · subst ex
    obtain rfl : u = Value.ref a := rx
    obtain ⟨mA, O, _, _, _, _⟩ := ins_get I1.hok ea
    obtain ⟨od, J, _⟩ := O.look
    obtain ⟨rest, hrec⟩ := hp.rec_
    have I2 := I1.tok (s1.toks + 1)
    have hc : (PySem.W.clsIn X.K C).isSome = true := by
      obtain ⟨cd, hc, _⟩ := PySem.W.any_some c.hd
      rw [hc]
      rfl
    refine PySem.W.get_bind I1.kIn J (PySem.W.plainGet_of (c.get q)).1 (PySem.W.findObj_data hc hp.at_ hp.get hp.tak) (PySem.W.plainGet_of (c.get q)).2 (wpAny_call (PySem.W.prop_get (s := { s1 with toks := s1.toks + 1 }) I1.kIn hrec ?_))
    refine codeAny_mono (F X.A.in1 X.stack { s1 with toks := s1.toks + 1 } H1 [.ref a] [.ref a] Q _ hr.in1 I2.env0.in1 (.cons rfl .nil) h) fun r s' hq => ?_
    cases r with
    | error er => exact False.elim (hx σ pins H1 { s1 with toks := s1.toks + 1 } er s' (I2.wish _) hq)
    | ok fl =>
      cases fl with
      | ret u =>
        obtain ⟨v, H', I3, rv, q3⟩ := I2.after hq
        show wpAny _ _ (handedOut u) _ _ _
        rw [PySem.W.handedOut_of (handed_of rv)]
        exact wpAny_pure ⟨v, H', I3, rv, q3⟩
      | next => exact False.elim hq
      | brk => exact False.elim hq
      | cont => exact False.elim hq
/-! ### o[i] = v by an own __setitem__ -/
def wSetO (n : Str) (sp : DSp) (RX : RXe) (wo wi wv : WE) : WS := fun k env M => wv env M fun d M1 => wo env M1 fun x M2 => wi env M2 fun y M3 => match viewD M3 x with
  | .obj n1 _ => Need (n1 = n) ∧ sp [x, y, d] M3 (fun _ M4 => k.nx env M4) fun nm fs M' => RX nm fs env M'
  | _ => False
theorem d_setO (ca : ClsAt X.K n C) (oc : OpC X.K C "__setitem__" f) (hq : PySem.W.noSeq X.K C = true) (F : FnR X.prog X.w X.K X.mg X.base CX k f (toSp X.K sp)) (hr : Room k X.A) (hx : Rz X B CX RX) (ho : DE B X o wo) (hi : DE B X i wi) (hv : DE B X value wv)
    (hs : swapsWith value (some (.Subscript o i pos')) pos.line X.env = pure false := by rfl) : DS B X (.Assign [.Subscript o i pos'] value pos) (wSetO n sp RX wo wi wv) := by
  refine ⟨fun pins s σ H D I h => ?_⟩
  obtain ⟨P, al, M, env, k', rs, hw, L⟩ := h
  refine wpAny_Assign_Subscript (thn (hv.run pins s σ H (fun v H1 => tD X.K B wo σ H1 fun x H2 => tD X.K B wi σ H2 fun y H3 => ∃ p dx fs, x = .ref p ∧ H3 p = some (.ins C dx fs) ∧ toSp X.K sp [.ref p, y, v] H3 (fun _ H4 => D.nx σ H4) (L2.WE (WL X.K B RX) σ)) I
    ⟨P, al, M, env, _, rs, hw, fun d1 M1 v1 H1 P1 al1 e1 rs1 r1 hw1 => ⟨P1, al1, M1, env, _, rs1, hw1, fun d2 M2 v2 H2 P2 al2 e2 rs2 r2 hw2 => ⟨P2, al2, M2, env, _, rs2, hw2, fun d3 M3 v3 H3 P3 al3 e3 rs3 r3 q => ?_⟩⟩⟩)
    fun r s1 ⟨v, H1, I1, rv, q1⟩ => thn (ho.run pins s1 σ H1 _ I1 q1) fun u s2 ⟨x, H2, I2, rx, q2⟩ => thn (hi.run pins s2 σ H2 _ I2 q2) fun iv s3 ⟨y, H3, I3, ry, p, dx, fs, ex, hp, h⟩ => ?_) hs
  · split at q
    · rename_i n1 fs1 v1'
      obtain ⟨hn, q⟩ := q
      have h1 := hn.out
      subst h1
      have r2' := r2.mono e3.pp e3.pre
      have r1' := r1.mono (e2.trans e3).pp (e2.trans e3).pre
      obtain ⟨p, dx, xs, rfl, hp⟩ := view_objOf ca rs3.toRS0 r2' v1'
      refine ⟨p, dx, xs, rfl, hp, sp_at rs3 (.cons r2' (.cons r3 (.cons r1' .nil))) (fun d4 M4 v4 H4 P4 al4 e4 rs4 r4 q4 => ?_) q⟩
      exact L.nx _ _ _ _ _ _ (e1.trans (e2.trans (e3.trans e4))) rs4 q4
    · exact q.elim
  · subst ex
    obtain rfl : u = Value.ref p := rx
    obtain ⟨m, fr⟩ := I3.fr
    obtain ⟨_, O, _⟩ := ins_get I3.hok hp
    obtain ⟨od, J, _⟩ := O.look
    refine PySem.W.ksp_setItem fr I3.ok.mod.kin J hq oc.at_ oc.fn (wpAny_mono (wpAny_call (run_at (us := [.ref p, iv, r]) (vs := [.ref p, y, v]) F hr (hx σ) I3 (.cons rfl (.cons ry (.cons rv .nil))) h)) (fun _ _ z => ?_) fun _ _ z => z)
    obtain ⟨_, H4, I4, _, q4⟩ := z
    exact ⟨σ, H4, I4, q4⟩
end
/-! ### x op= y by an own method for it, which may raise -/
structure HasIop (K : PySem.W.Frag) (C : Addr) (m : Str) (f : Addr) : Prop where
  mro : ∃ cd, PySem.W.clsIn K C = some cd ∧ cd.mro = [.ref C, .type "object"]
  at_ : PySem.W.findIn K (.ref C) m = some (some (.ref f))
  fn : PySem.W.isFn K (.ref f) = true
theorem fillsI_has {K : PySem.W.Frag} {M : Model} {h : Heap} {nm : String} {add : Bool} {C f : Addr} (X : K.In h) (T : HasIop K C (dunderI nm) f) : PySem.W.Looks M h (fillsInplaceSlot (.ref C) nm add) true := by
  intro A Q E s k q
  obtain ⟨cd, hc, hm⟩ := T.mro
  have Lm : PySem.W.Looks M h (mroOf (.ref C)) cd.mro := (PySem.W.looks_clsIn X hc).andThen (f := fun cd => pure cd.mro) .now
  have L1 := PySem.W.looks_findIn (M := M) X T.at_
  unfold fillsInplaceSlot
  refine wpAny_bind (Lm A _ E s k ?_)
  rw [hm, List.anyM_cons]
  refine wpAny_bind (wpAny_bind (L1 A _ E s k ?_))
  refine wpAny_pure ?_
  rw [if_pos rfl]
  exact wpAny_pure q
theorem iop_own {K : PySem.W.Frag} {prog : Program} {w : World} {A : Around} {E : Value → Shared → Prop} {s : Shared} {h₀ : Heap} {Lc x C f : Addr} {ox : Obj} {od : Option Obj} {m : Str → Option Value} {op : Operator} {b : Value} {Q : Value → Shared → Prop} (F : Fr h₀ Lc s.heap m) (X₀ : K.In h₀) (I : PySem.W.InstAt s.heap x ox C od)
    (T : HasIop K C (dunderI op.info.2) f) (h : wpAny (model prog w) A (call (.ref f) [.ref x, b]) (PySem.W.CmpBack Q) E s) : wpAny (model prog w) A (inplaceOp op (.ref x) b) Q E s := by
  have X := X₀.keeps F.keep
  unfold inplaceOp
  refine wpAny_holding ?_
  refine wpAny_bind (I.type.here (wpAny_bind ((fillsI_has X T).here ?_)))
  simp only [if_true]
  refine wpAny_bind ?_
  unfold tryMethod
  refine wpAny_bind (PySem.W.special_fn X I T.at_ (beq_iff_eq.mp T.fn) (wpAny_mono h (fun v s' hv => ?_) fun _ _ e => e))
  cases v <;> first | exact hv.elim | (refine wpAny_pure ?_; refine wpAny_bind ?_; exact wpAny_rule (wpAny_pure hv))
section
variable {X : Cx} {B : Bs} {CX : CXT} {k : Nat} {f C : Addr} {sp : DSp} {n : Str} {e : Expr} {we : WE} {op : Operator} {pos pos' : Pos} {RX : RXe}
def wIopO (i : Nat) (n : Str) (sp : DSp) (RX : RXe) (we : WE) : WS := fun k env M => match env[i]? with
  | some (some x) => we env M fun y M1 => match viewD M1 x with
    | .obj n1 _ => Need (n1 = n) ∧ sp [x, y] M1 (fun z M2 => k.nx (env.set i (some z)) M2) fun nm fs M' => RX nm fs env M'
    | _ => False
  | _ => False
theorem d_iopO {i : Nat} {x : Str} (ca : ClsAt X.K n C) (T : HasIop X.K C (dunderI op.info.2) f) (F : FnR X.prog X.w X.K X.mg X.base CX k f (toSp X.K sp)) (hr : Room k X.A) (hx : Rz X B CX RX) (hN : X.N.Nodup) (he : DE B X e we)
    (hi : X.N[i]? = some x := by rfl) (hl : Loc X.env.scope x := by first | exact .inl rfl | exact .inr rfl) (hf : X.env.scope.names.lookup x = some .local := by first | rfl | assumption) :
    DS B X (.AugAssign (.Name x pos') op e pos) (wIopO i n sp RX we) := by
  refine ⟨fun pins s σ H D I h => ?_⟩
  obtain ⟨P, al, M, env, k', rs, hw, L⟩ := h
  unfold wIopO at hw
  split at hw
  · rename_i d hd
    obtain ⟨v, h1, h2⟩ := rs.slot _ _ hd
    obtain ⟨m, hn, hl2⟩ := I.loc
    have vis : Vis X.env.scope x := by rcases hl with k | k; exact .inl k; exact .inr (.inl k)
    obtain ⟨u, r, l⟩ := hl2 i x v hi h1 vis
    refine wpAny_AugAssign_Name ?_
    have go : wpAny (model X.prog X.w) X.A (eval e X.env) (fun w s₂ => wpAny (model X.prog X.w) X.A (inplaceOp op u w) (fun r s₃ => wpAny (model X.prog X.w) X.A (storeName X.env x r) (fun _ => SP X pins D .next) X.xe s₃) X.xe s₂) X.xe s := by
      refine thn (he.run pins s σ H (fun y H1 => ∃ p dx fs, v = .ref p ∧ H1 p = some (.ins C dx fs) ∧ toSp X.K sp [.ref p, y] H1 (fun z H2 => D.nx (σ.set i (some z)) H2) (L2.WE (WL X.K B RX) σ)) I ⟨P, al, M, env, _, rs, hw, fun d1 M1 v1 H1 P1 al1 e1 rs1 r1 q => ?_⟩) fun w s1 ⟨y, H1, I1, r1, p, dx, fs, ev, hp, h⟩ => ?_
      · split at q
        · rename_i n1 fs1 v1'
          obtain ⟨hn, q⟩ := q
          have h1 := hn.out
          subst h1
          have r0 := h2.mono e1.pp e1.pre
          obtain ⟨p, dx, xs, rfl, hp⟩ := view_objOf ca rs1.toRS0 r0 v1'
          refine ⟨p, dx, xs, rfl, hp, sp_at rs1 (.cons r0 (.cons r1 .nil)) (fun d4 M4 v4 H4 P4 al4 e4 rs4 r4 q4 => ?_) q⟩
          exact L.nx _ _ _ _ _ _ (e1.trans e4) (rs4.put i r4) q4
        · exact q.elim
      · subst ev
        obtain rfl : u = Value.ref p := r
        obtain ⟨m, fr⟩ := I1.fr
        obtain ⟨_, O, _⟩ := ins_get I1.hok hp
        obtain ⟨od, J, _⟩ := O.look
        refine iop_own fr I1.ok.mod.kin J T (wpAny_mono (wpAny_call (run_at (us := [.ref p, w]) (vs := [.ref p, y]) F hr (hx σ) I1 (.cons rfl (.cons r1 .nil)) h)) (fun _ _ z => ?_) fun _ _ z => z)
        have key : ∀ {u' s'}, EP X pins σ (fun z H2 => D.nx (σ.set i (some z)) H2) u' s' → wpAny (model X.prog X.w) X.A (storeName X.env x u') (fun _ => SP X pins D .next) X.xe s' := fun {u' s'} ⟨zv, H2, I2, r2, q2⟩ => store_ok I2 hN hi hl r2 (fun s3 I3 => ⟨_, H2, I3, q2⟩) (.inr hf)
        have z2 := cmpBack_of z
        revert z2
        rename_i u' s'
        cases u' <;> first | exact fun z2 => key z2 | exact fun z2 => z2.elim
    rcases l with ⟨hk, hm⟩ | ⟨hk, c, hc, hcell⟩
    · exact wpAny_loadName_local I.ok.kind hk hn hm go
    · have hf' : X.env.kindOf x = some .local := hf
      rw [hf'] at hk
      rcases hk with hk | hk <;> cases hk
  · exact hw.elim
end
end L3

namespace L3
open PySem PySem.Spec PyProof.Rows L2
/-! ### C(..), the object stays in the table; dict(..) that will change; a default at the end of an __init__ -/
section
variable {X : Cx} {B : Bs} {CX : CXT} {k : Nat} {f C : Addr} {sp : DSp} {n x : Str} {p pos : Pos} {e : Expr} {es : List Expr} {was : WA} {RX : RXe}
theorem d_mkM (ca : ClsAt X.K n C) (Mc : Mk X.K C f) (F : FnR X.prog X.w X.K X.mg X.base CX k f (toSp X.K sp)) (hr : Room (k + 1) X.A) (hx : Rz X B CX RX) (hg : Gl X x) (hm : X.mg x = some (.ref C)) (ha : DA B X (e :: es) was) (hdb : (x == ("__debug__" : Str)) = false := by decide)
    (he : starEach (e :: es) X.env = (false, eval e X.env) :: starEach es X.env := by rfl) (hpl : (backTo pos (starEach es X.env)).any (·.1) = false := by rfl) : DE B X (.Call (.Name x p) (e :: es) [] pos) (wMkM n sp RX was) := by
  refine (pe_mkA Mc F hr hx hg hm ha hdb he hpl).imp fun σ H Q => ?_
  rintro ⟨P, al, M, env, R, rs, hw, L⟩
  exact ⟨P, al, M, env, _, rs, hw, fun ds M1 vs H1 P1 al1 e1 rs1 r1 q x dx hx hd ne => mk_sp ca rs1 r1 (L.after e1) hx hd ne (fun _ _ h => ⟨h.1, .inl h.2⟩) q⟩
theorem d_mkM0 (ca : ClsAt X.K n C) (Mc : Mk X.K C f) (F : FnR X.prog X.w X.K X.mg X.base CX k f (toSp X.K sp)) (hr : Room (k + 1) X.A) (hx : Rz X B CX RX) (hg : Gl X x) (hm : X.mg x = some (.ref C)) (hdb : (x == ("__debug__" : Str)) = false := by decide) :
    DE B X (.Call (.Name x p) [] [] pos) (wMkM n sp RX wNil) := by
  refine (pe_mkA0 Mc F hr hx hg hm hdb).imp fun σ H Q => ?_
  rintro ⟨P, al, M, env, R, rs, hw, L⟩
  exact fun x dx hx hd ne => mk_sp ca rs .nil L hx hd ne (fun _ _ h => ⟨h.1, .inl h.2⟩) hw
end
/-- the last parameter left to its default -/
def dfl1 (d : D) (sp : DSp) : DSp := fun ds M R RX => sp (ds ++ [d]) M R RX
section
variable {P : Program} {w : World} {K : PySem.W.Frag} {mg : Str → Option Value} {base : Heap} {CX : CXT} {k : Nat} {f : Addr} {sp : DSp}
theorem fnR_dfl {d : D} {v : V} (hd : ∀ P al, Rep K P al d v) (F : FnR P w K mg base CX k f fun vs H Q E => toSp K sp (vs ++ [v]) H Q E) : FnR P w K mg base CX k f (toSp K (dfl1 d sp)) :=
  fun A outer s H us vs Q E hr e0 r h => F A outer s H us vs Q E hr e0 r (by
    obtain ⟨P, al, M, ds, R, RX, rs, rr, hw, L, LX⟩ := h
    exact ⟨P, al, M, ds ++ [d], R, RX, rs, rr.append (.cons (hd _ _) .nil), hw, L, LX⟩)
end
section
variable {K : PySem.W.Frag} {B : Bs}
@[irreducible] def cDictTM : WCl := fun ds M R => match ds with
  | [.ptp l] => match kpD l with
    | some ks => R (.cel M.length) (M ++ [.dct (mergeD [] ks)])
    | none => False
  | _ => False
theorem cDictTM_ok : CallD K B (rDictT K) cDictTM := by
  intro P al M env σ H vs ds R Q rs r h L
  unfold cDictTM at h
  split at h
  · cases r with
    | cons r1 t =>
      cases t
      split at h
      · rename_i ks e2
        cases r1 with
        | ptp q1 t1 =>
          obtain ⟨ps, kvs, rfl, g2, g3⟩ := kp_rep (xs := []) t1 e2
          exact ⟨_, ps, kvs, rfl, q1.same rs.same, paired_imp (fun _ _ z => same_seqT rs.same z) g2, fun p hn => L.allocDM rs hn (RepKs.merge g3 .nil) h⟩
      · exact h.elim
  · exact h.elim
@[irreducible] def cDictLM : WCl := fun ds M R => match ds with
  | [x] => match lstD (viewD M x) with
    | some l => match kpD l with
      | some ks => R (.cel M.length) (M ++ [.dct (mergeD [] ks)])
      | none => False
    | none => False
  | _ => False
theorem cDictLM_ok : CallD K B (fun xs H Q => ∃ (a : Addr) (ps : List Addr) (kvs : List (Key × V)), xs = [.ref a] ∧ SqL K H a (ps.map V.ref) ∧ Paired (fun p kv => SqT K H p [kV kv.1, kv.2]) ps kvs ∧
    ∀ p, H p = none → Q (.ref p) (upd H p (.dK (mergeK [] kvs)))) cDictLM := by
  intro P al M env σ H vs ds R Q rs r h L
  unfold cDictLM at h
  split at h
  · cases r with
    | cons r1 t =>
      cases t
      split at h
      · rename_i l e1
        split at h
        · rename_i ks e2
          obtain ⟨a, xs, rfl, h1, q1⟩ := view_lstD rs.toRS0 r1 e1
          obtain ⟨ps, kvs, rfl, g2, g3⟩ := kp_rep (xs := []) q1 e2
          exact ⟨a, ps, kvs, rfl, h1, paired_imp (fun _ _ z => same_seqT rs.same z) g2, fun p hn => L.allocDM rs hn (RepKs.merge g3 .nil) h⟩
        · exact h.elim
      · exact h.elim
  · exact h.elim
theorem dictLM_use {l : List D} {ks : List (Key × D)} {x : D} {M : Mt} {R : D → Mt → Prop} (h : lstD (viewD M x) = some l) (h2 : kpD l = some ks) (k : R (.cel M.length) (M ++ [.dct (mergeD [] ks)])) : cDictLM [x] M R := by
  simp only [cDictLM, h, h2]; exact k
theorem dictTM_use {l : List D} {ks : List (Key × D)} {M : Mt} {R : D → Mt → Prop} (h2 : kpD l = some ks) (k : R (.cel M.length) (M ++ [.dct (mergeD [] ks)])) : cDictTM [.ptp l] M R := by
  simp only [cDictTM, h2]; exact k
end
end L3

namespace L3
open PySem PySem.Spec PyProof.Rows L2
/-! ### x == y, y of another own class that does not derive from x's -/
section
variable {X : Cx} {B : Bs} {CX : CXT} {k : Nat} {f C C2 : Addr} {n n2 : Str} {sp : DSp}
def rEqO2 (K : PySem.W.Frag) (C C2 : Addr) (sp : DSp) : R2 := fun x y H Q => ∃ p dx fs q dy gs, x = V.ref p ∧ H p = some (.ins C dx fs) ∧ y = V.ref q ∧ H q = some (.ins C2 dy gs) ∧ toSp K sp [.ref p, y] H (fun v H' => ∃ b, v = .bl b ∧ Q (.bl b) H') fun _ _ _ => False
theorem op_eqO2 (oc : OpC X.K C "__eq__" f) (hs : PySem.W.subIn X.K (.ref C2) (.ref C) = some false) (F : FnR X.prog X.w X.K X.mg X.base CX k f (toSp X.K sp)) (hr : Room k X.A) (hx : Rz X B CX RXn) : OpR X (compareOp .Eq) (rEqO2 X.K C C2 sp) := by
  intro pins s σ H x y v u Q I rx ry h
  obtain ⟨p, dx, fs, q, dy, gs, rfl, hp, rfl, hq, h⟩ := h
  cases rx
  cases ry
  obtain ⟨m, fr⟩ := I.fr
  obtain ⟨_, O, _⟩ := ins_get I.hok hp
  obtain ⟨od, J, _⟩ := O.look
  obtain ⟨_, O2, _⟩ := ins_get I.hok hq
  obtain ⟨od2, J2, _⟩ := O2.look
  have hn : PySem.W.notFirst X.K C (.ref C2) = true := by
    unfold PySem.W.notFirst
    rw [hs]; simp
  show wpAny (model X.prog X.w) X.A (richCompare .Eq (.ref p) (.ref q)) (EP X pins σ Q) X.xe s
  refine PySem.W.cmp_K (by have := hr.units; omega) fr I.ok.mod.kin J J2.type hn oc.at_ oc.fn (wpAny_mono (wpAny_call (run_at (us := [.ref p, .ref q]) (vs := [.ref p, .ref q]) F hr (hx σ) I (.cons rfl (.cons rfl .nil)) (toSp_imp (fun _ _ _ z => z.elim) h))) (fun r s' z => ?_) fun _ _ z => z)
  obtain ⟨v, H', I', rv, b, rfl, q⟩ := z
  cases rv
  exact ⟨.bl b, H', I', rfl, q⟩
@[irreducible] def oEqO2 (n n2 : Str) (sp : DSp) : WO2 := fun x y M R => match viewD M x, viewD M y with
  | .obj n1 _, .obj n3 _ => Need (n1 = n ∧ n3 = n2) ∧ sp [x, y] M (retB fun b M' => R (.bl b) M') fun _ _ _ => False
  | _, _ => False
theorem oEqO2_ok {K : PySem.W.Frag} (ca : ClsAt K n C) (cb : ClsAt K n2 C2) : OpD K B (rEqO2 K C C2 sp) (oEqO2 n n2 sp) := by
  intro P al M env σ H x y dx dy R Q rs r1 r2 h L
  unfold oEqO2 at h
  split at h
  · rename_i n1 fs n3 gs v1 v2
    obtain ⟨hn, h⟩ := h
    obtain ⟨h1, h2⟩ := hn.out
    subst h1 h2
    obtain ⟨p, dx', xs, rfl, hp⟩ := view_objOf ca rs.toRS0 r1 v1
    obtain ⟨q, dy', ys, rfl, hq⟩ := view_objOf cb rs.toRS0 r2 v2
    refine ⟨p, dx', xs, q, dy', ys, rfl, hp, rfl, hq, P, al, M, _, _, _, rs.toRS0.here, .cons r1 (.cons r2 .nil), h, fun d M' v H' P' al' e r0 r q => ?_, fun _ _ _ _ _ _ _ _ _ _ _ _ q => q.elim⟩
    unfold retB at q
    split at q
    · cases r; exact ⟨_, rfl, L _ _ _ _ _ _ e (rs.step e (r0.rebase (rs.base.trans e))) (.bl _) q⟩
    · exact q.elim
  · exact h.elim
theorem eqO2_use {x y : D} {M : Mt} {R : D → Mt → Prop} {fs gs : List (Str × D)} (hx : viewD M x = .obj n fs) (hy : viewD M y = .obj n2 gs) (h : sp [x, y] M (retB fun b M' => R (.bl b) M') fun _ _ _ => False) : oEqO2 n n2 sp x y M R := by
  unfold oEqO2; rw [hx, hy]; exact ⟨⟨rfl, rfl⟩, h⟩
end
end L3

namespace L3
open PySem PySem.Spec PyProof.Rows L2
/-! ### try: .. except C as e: y = e -/
section
variable {X : Cx} {pins : List (Addr × Obj)} {σ : L2.St} {H : Hp} {s : Shared} {a : Addr} {oe : Obj}
/-- an error that is held is tracked from now on -/
theorem inv_track (I : L2.Inv X pins σ H s) (ha : s.heap.get? a = some oe) (hd : ∃ vs, oe.data = .fields vs) (na : H a = none) (nL : a ≠ X.env.locals) (np : ∀ p ∈ X.pn ++ pins, p.1 ≠ a) (n0 : ∀ o, X.s_0.heap.get? a = some o → a ∈ X.ex) : L2.Inv X pins σ (upd H a (ExK a oe)) s := by
  have nc : ∀ x c, X.env.cells.lookup x = some c → c ≠ a := fun x c e z => by
    obtain ⟨v, o, e1, e2⟩ := I.cell x c e
    rw [z, ha] at e1
    cases e1
    obtain ⟨vs, hv⟩ := hd
    rw [hv] at e2; cases e2
  have ne : ∀ b o, H b = some o → b ≠ a := fun b o e z => by rw [z, na] at e; cases e
  refine ⟨I.ok, I.os, I.bare, ⟨I.base.keep, I.base.slot, fun b o e n hx => ?_, I.base.there, fun b xs e => ?_, fun b o u e => ?_, fun b ps e => ?_⟩, I.loc, I.cell, ?_, fun x c e => ?_, fun p hp => ?_, fun b o e => ?_, I.len⟩
  · by_cases hb : b = a
    · subst hb; exact absurd (n0 o e) hx
    · rw [upd_ne hb]; exact I.base.free b o e n hx
  · have h := I.base.tups b xs e
    rw [upd_ne (ne _ _ h)]; exact h
  · have h := I.base.frzs b o u e
    rw [upd_ne (ne _ _ h)]; exact h
  · obtain ⟨more, h⟩ := I.base.tbls b ps e
    exact ⟨more, by rw [upd_ne (ne _ _ h)]; exact h⟩
  · rw [upd_ne (Ne.symm nL)]; exact I.free
  · rw [upd_ne (nc x c e)]; exact I.freeC x c e
  · obtain ⟨h1, h2, h3⟩ := I.pin p hp
    exact ⟨h1, by rw [upd_ne (np p hp)]; exact h2, h3⟩
  · by_cases hb : b = a
    · subst hb
      rw [upd_same] at e; cases e
      exact ⟨ha, ⟨oe, ha⟩, fun h1 h2 q k => k oe q⟩
    · rw [upd_ne hb] at e
      exact (I.hok b o e).stay (fun c u _ q => q) (fun c q => by rw [upd_ne (ne _ _ q)]; exact q) fun c xs q => by rw [upd_ne (ne _ _ q)]; exact q
end
/-- what the clause wishes: the error is there, tracked, when the suite has ended -/
def wKeep (K : PySem.W.Frag) (c : Value) (i : Nat) (ts : Addr → Value → Option Addr → TS) (Wout : WX) (D : Ends) : WX := fun cls d σ H =>
  ∃ b, PySem.W.exmOne K cls c = some b ∧ (b = true → ∀ a oe, H a = none → Zc cls d oe → (∃ vs, oe.data = .fields vs) → ts a cls d { nx := fun σ' H' => H' a = none → D.nx (σ'.set i none) (upd H' a (ExK a oe)), rt := fun _ _ => False, bk := fun _ _ => False, ct := fun _ _ => False } (σ.set i (some (.ref a))) H) ∧
    (b = false → Wout cls d σ H)
section
variable {X : Cx} {x n : Str} {c : Value} {i : Nat} {body suite : List Stmt} {b₀ : Stmt} {np pos pos' : Pos} {tb : WX → TS} {ts : Addr → Value → Option Addr → TS} {Wout : WX}
theorem ps_try_keep (hs : X.stack = X.env :: X.outer) (hf : X.env.frame = some X.env.locals) (hN : X.N.Nodup) (hi : X.N[i]? = some n) (hln : X.env.kindOf n = some .local) (hc : Names X x c) (tk : L2.Takes X Wout)
    (hb : ∀ (W : WX) (pn : List (Addr × Obj)) (xe : Value → Shared → Prop), L2.Takes (X.tr pn xe) W → PassesOwn (model X.prog X.w) X.A X.env xe → PSs (X.tr pn xe) body (tb W))
    (hsu : ∀ (a : Addr) (oe : Obj) (cls : Value) (d : Option Addr) (pn : List (Addr × Obj)), Zc cls d oe → (∃ vs, oe.data = .fields vs) → PSs (X.suite a ((a, oe) :: pn)) (b₀ :: suite) (ts a cls d)) :
    PS X (.Try body [.ExceptHandler (some (.Name x np)) (some n) (b₀ :: suite) pos'] [] [] pos) (fun D σ H => tb (wKeep X.K c i ts Wout D) D σ H) := by
  refine ⟨fun pins s σ H D I h => ?_⟩
  have ok := I.ok
  have hfr : X.A.frames = some (X.env :: X.outer) := by rw [ok.frames, hs]
  have hloc : Loc X.env.scope n := .inl hln
  refine wpAny_Try_except ?_
  refine wpAny_mono ((hb (wKeep X.K c i ts Wout D) (X.pn ++ pins) (fun e s₁ => wpAny (model X.prog X.w) X.A (noteFrame e X.env) (fun _ s₂ => wpAny (model X.prog X.w) X.A (setFlight e none) (fun _ s₃ =>
    wpAny (model X.prog X.w) X.A (handleBy e X.env [.ExceptHandler (some (.Name x np)) (some n) (b₀ :: suite) pos']) (SP X pins D) X.xe s₃) X.xe s₂) X.xe s₁) (fun u s' xx => ?_) PassesOwn.looking).run [] s σ H D (I.toTry _) h) (fun f s1 hsp => ?_) (fun e s1 he => he)
  · -- the catch
    obtain ⟨a, B, sI, pins', σ', H', cls, d, rfl, J', nb, up, sky, na, os, ag, b, hb1, hyes, hno⟩ := xx
    have J : L2.Inv X pins σ' H' sI := J'.ofTry ok
    have sky' : Sky B (X.env :: X.outer) a (Zc cls d) X.env.locals s'.heap := by rw [← hs]; exact sky
    show wpAny (model X.prog X.w) X.A (noteFrame (.ref a) X.env) _ _ _
    refine Sky.land Zc.steady hfr hf sky' fun h3 fl3 up3 => ?_
    have J3 : L2.Inv X pins σ' H' { s' with heap := h3 } := J.landed nb fl3.1 (up.trans up3) os ag
    obtain ⟨oe3, vs3, he3, hz3, hd3⟩ := fl3.there
    have notFr : ∀ {h : Heap} {o : Obj} {vs : Array Value}, h.FunFrames B (X.env :: X.outer) → h.get? a = some o → o.data = .fields vs → a ∉ frs (X.env :: X.outer) := fun {h o vs} ff e dd hm => by
      obtain ⟨_, o', e', hnf⟩ := ff.mem hm
      rw [e] at e'; cases e'
      exact hnf _ dd
    have nfr := notFr fl3.2.2.1 he3 hd3
    have nL : a ≠ X.env.locals := fun z => nfr (List.mem_filterMap.mpr ⟨X.env, List.mem_cons_self, by rw [hf, z]⟩)
    have nF : a ∉ X.fs := fun hm => by
      obtain ⟨e, he, q⟩ := List.mem_filterMap.mp hm
      exact nfr (List.mem_filterMap.mpr ⟨e, List.mem_cons_of_mem _ he, q⟩)
    have Ba : B.get? a = none := fl3.2.1
    have inB : ∀ b o, sI.heap.get? b = some o → b ∉ frs X.stack → b ≠ a := fun b o e nf z => by
      have := nb b o e nf
      rw [z, Ba] at this; cases this
    have np0 : ∀ p ∈ X.pn ++ pins, p.1 ≠ a := fun p hp => by
      obtain ⟨h1, _, h3, h4, _⟩ := J.pin p hp
      exact inB p.1 _ h1 fun hm => (List.mem_cons.mp (J.stkSub _ hm)).elim h3 h4
    have n0 : ∀ o, X.s_0.heap.get? a = some o → a ∈ X.ex := fun o e => by
      by_cases hx : a ∈ X.ex
      · exact hx
      · obtain ⟨o', e'⟩ := J.base.there a o e hx
        exact absurd rfl (inB a o' e' (by rw [hs]; exact nfr))
    have S3 := J3.suite he3 hd3 na nL nF
    refine wpAny_handleBy_cons (codeAny_handlers_test ?_) (by intro q; cases q)
    have LT : PySem.W.Looks (model X.prog X.w) h3 (typeOf (.ref a)) cls := fun A Q E s k q => wpAny_typeOf_ref (k _ _ he3) (by rw [hz3.1]; exact q)
    have LM := PySem.W.exm_one (M := model X.prog X.w) (J3.kIn) LT hb1
    have test : ∀ {Q : Value → Shared → Prop} {E : Value → Shared → Prop}, Q c { s' with heap := h3 } → wpAny (model X.prog X.w) (X.A.mark (some (.ref a))) (eval (.Name x np) X.env) Q E { s' with heap := h3 } := fun {Q E} q => by
      obtain ⟨hg, hdbg, hm | ⟨hm, hv, hnn⟩⟩ := hc
      · exact ld_glob (X := X.suite a ((a, oe3) :: (X.pn ++ pins))) S3 hg hm q hdbg
      · exact ld_blt (X := X.suite a ((a, oe3) :: (X.pn ++ pins))) S3 hg hm hv q hnn hdbg
    refine test (LM.here ?_)
    cases b with
    | true =>
      refine codeAny_handlers_suite_as ?_
      refine HandSPX.lands_againZ fl3 fun h4 fl4 up4 => ?_
      have J4 : L2.Inv X pins σ' H' { s' with heap := h4 } := J.landed nb fl4.1 ((up.trans up3).trans up4) os ag
      obtain ⟨oe4, vs4, he4, hz4, hd4⟩ := fl4.there
      have S4 := J4.suite he4 hd4 na nL nF
      refine store_ok (X := X.suite a ((a, oe4) :: (X.pn ++ pins))) (v := .ref a) S4 hN hi hloc rfl (fun s5 S5 => ?_) (.inr hln)
      refine wpAny_mono ((hsu a oe4 cls d (X.pn ++ pins) hz4 ⟨_, hd4⟩).run [] s5 _ H' _ S5 (hyes rfl a oe4 na hz4 ⟨_, hd4⟩)) (fun f s6 hsp => ?_) (fun _ _ z => False.elim z)
      cases f with
      | next =>
        obtain ⟨σ6, H6, S6, q6⟩ := hsp
        obtain ⟨g1, g2, _⟩ := S6.pin (a, oe4) (List.mem_append_left _ List.mem_cons_self)
        have J6 : L2.Inv X pins σ6 H6 s6 := S6.unsuite ok
        exact gone_ok (inv_track J6 g1 ⟨_, hd4⟩ g2 nL np0 n0) hN hi hln fun s7 J7 => ⟨_, _, J7, q6 g2⟩
      | brk =>
        obtain ⟨_, _, _, q6⟩ := hsp
        exact q6.elim
      | cont =>
        obtain ⟨_, _, _, q6⟩ := hsp
        exact q6.elim
      | ret u =>
        obtain ⟨_, _, _, _, _, q6⟩ := hsp
        exact q6.elim
    | false =>
      show wpAny _ X.A (handleBy (.ref a) X.env []) _ _ _
      refine wpAny_handleBy_nil ?_
      obtain ⟨k1, k2, k3, oe, vs, T, oT, ts', he, hz, hd, h1, hr⟩ := id fl3
      unfold PySem.passOn
      refine wpAny_bind (wpAny_field he hd h1 ?_)
      rw [if_neg (show ¬ ((Value.ref T == Value.none) = true) from by simp)]
      have fin : wpAny (model X.prog X.w) X.A (setFlight (.ref a) X.env.frame) (fun _ s4 => wpAny (model X.prog X.w) X.A (throw (.ref a) : Sem Flow) (SP X pins D) X.xe s4) X.xe { s' with heap := h3 } := by
        rw [hf]
        refine HandSPX.setFlight_upZ fl3 fun h4 hh4 up4 => wpAny_throw (tk _ _ ?_)
        exact ⟨a, B, sI, pins, σ', H', cls, d, rfl, J, nb, (up.trans up3).trans up4, .inr (.inr (by rw [hs]; exact hh4)), na, os, ag, hno rfl⟩
      first
        | exact wpAny_bind (wpAny_pure (wpAny_bind fin))
        | exact wpAny_bind fin
  · cases f with
    | next =>
      obtain ⟨σ', H', J', q⟩ := hsp
      exact wpAny_execs_nil ⟨σ', H', J'.ofTry ok, q⟩
    | brk =>
      obtain ⟨σ', H', J', q⟩ := hsp
      exact ⟨σ', H', J'.ofTry ok, q⟩
    | cont =>
      obtain ⟨σ', H', J', q⟩ := hsp
      exact ⟨σ', H', J'.ofTry ok, q⟩
    | ret u =>
      obtain ⟨v, σ', H', J', r, q⟩ := hsp
      exact ⟨v, σ', H', J'.ofTry ok, r, q⟩
end
end L3

namespace L3
open PySem PySem.Spec PyProof.Rows L2
/-! ### an error that is kept as a cell -/
section
variable {K : PySem.W.Frag} {B : Bs} {P P' : Hp} {al al' : List Addr} {M M' : Mt} {env : Ev} {σ : L2.St} {H H' : Hp} {a : Addr} {oe : Obj} {l : List D}
/-- an error's dict is published -/
theorem RS0.pubX {d : Addr} {gs : List (Str × V)} (r : RS0 K B P al M H) (hd : H d = some (.xd gs)) (na : d ∉ al) : Ext P al H (upd P d (.xd gs)) al H ∧ RS0 K B (upd P d (.xd gs)) al M H := by
  have sm : Same P (upd P d (.xd gs)) := fun b x h => by
    by_cases hb : b = d
    · subst hb; rw [upd_same, ← hd]; exact r.same _ _ h
    · rw [upd_ne hb]; exact h
  have e : Ext P al H (upd P d (.xd gs)) al H := ⟨sm, List.prefix_refl _, fun _ _ h _ => h, fun b m n => absurd m n, fun b x h ok hb n => by
    by_cases hz : b = d
    · subst hz; rw [hd] at h; cases h; exact absurd rfl (ok.2 gs)
    · rw [upd_ne hz]; exact hb⟩
  refine ⟨e, r.base.trans e, fun b x h => ?_, r.len, fun i a m h1 h2 => ?_, r.inj, r.trk⟩
  · by_cases hz : b = d
    · rw [hz, upd_same] at h; cases h; rw [hz]; exact hd
    · rw [upd_ne hz] at h; exact r.same _ _ h
  · have ne : a ≠ d := fun z => na (z ▸ List.mem_of_getElem? h1)
    exact (r.cell i a m h1 h2).mono sm (List.prefix_refl _) (fun l => by rw [upd_ne ne]; exact (live_cell l (r.cell i a m h1 h2)).1) fun o' _ h => h
theorem xd_pub {fs : List (Str × D)} {dd : Option Addr} (x : XdOk K P al H fs dd) (r : RS0 K B P al M H) :
    ∃ P', Ext P al H P' al H ∧ RS0 K B P' al M H ∧ ((dd = none ∧ fs = []) ∨ ∃ d gs, dd = some d ∧ P' d = some (.xd gs) ∧ RepFs K P' al fs gs) := by
  rcases x with x | ⟨d, gs, h1, h2, h3, h4⟩
  · exact ⟨P, Ext.refl, r, .inl x⟩
  · obtain ⟨e, r'⟩ := r.pubX h3 h2
    exact ⟨_, e, r', .inr ⟨d, gs, h1, upd_same, h4.mono e.pp e.pre⟩⟩
/-- the error is a cell from now on -/
theorem RS0.cellE (r : RS0 K B P al M H) (ha : H a = none) (hc : ∀ P' al', Same P P' → al <+: al' → P' a = some (ExK a oe) → ExCell K P' al' l a) :
    Ext P al H (upd P a (ExK a oe)) (al ++ [a]) (upd H a (ExK a oe)) ∧ RS0 K B (upd P a (ExK a oe)) (al ++ [a]) (M ++ [.ptp l]) (upd H a (ExK a oe)) := by
  obtain ⟨e1, r1⟩ := r.alloc ha (ExK a oe)
  have e : Ext P al H (upd P a (ExK a oe)) (al ++ [a]) (upd H a (ExK a oe)) := by
    refine ⟨e1.pp, List.prefix_append _ _, e1.fr, fun b m n => ?_, e1.pn⟩
    rcases List.mem_append.mp m with z | z
    · exact absurd z n
    · have : b = a := by simpa using z
      rw [this]; exact ha
  have old : ∀ (i : Nat) (b : Addr), (al ++ [a])[i]? = some b → (i < al.length ∧ al[i]? = some b) ∨ (i = al.length ∧ b = a) := fun i b h => by
    by_cases hi : i < al.length
    · rw [List.getElem?_append_left hi] at h; exact .inl ⟨hi, h⟩
    · rw [List.getElem?_append_right (by omega)] at h
      have : i - al.length = 0 := by
        cases hq : i - al.length with
        | zero => rfl
        | succ n => rw [hq] at h; simp at h
      rw [this] at h
      exact .inr ⟨by omega, by simpa using h.symm⟩
  have oldM : ∀ (i : Nat) (n : D), i < al.length → (M ++ [.ptp l])[i]? = some n → M[i]? = some n := fun i n hi h => by
    rw [List.getElem?_append_left (by have := r.len; omega)] at h; exact h
  have newM : ∀ (n : D), (M ++ [.ptp l])[al.length]? = some n → n = .ptp l := fun n h => by
    rw [List.getElem?_append_right (by have := r.len; omega), r.len, Nat.sub_self] at h
    simpa using h.symm
  refine ⟨e, r.base.trans e, r1.same, by simp [r.len], fun i b n h1 h2 => ?_, fun i j b n n' h1 h2 h3 h4 l1 l2 => ?_, fun b hb => ?_⟩
  · rcases old i b h1 with ⟨hi, h1'⟩ | ⟨hi, rfl⟩
    · have c := r1.cell i b n h1' (oldM i n hi h2)
      exact c.mono (Same.refl _) (List.prefix_append _ _) (fun hl => (live_cell hl c).1) fun o' _ h => h
    · rw [hi] at h2
      rw [newM _ h2]
      exact hc _ _ e1.pp (List.prefix_append _ _) upd_same
  · rcases old i b h1 with ⟨hi, h1'⟩ | ⟨hi, e1⟩
    · rcases old j b h2 with ⟨hj, h2'⟩ | ⟨hj, e2⟩
      · exact r.inj i j b n n' h1' h2' (oldM i n hi h3) (oldM j n' hj h4) l1 l2
      · rw [hj] at h4
        rw [newM _ h4] at l2; cases l2
    · rw [hi] at h3
      rw [newM _ h3] at l1; cases l1
  · rcases List.mem_append.mp hb with z | z
    · exact r1.trk b z
    · have : b = a := by simpa using z
      rw [this, upd_same]; exact ⟨_, rfl⟩
theorem RS.retype (r : RS K B P al M env σ H) {j : Nat} {d d' : D} (h : env[j]? = some (some d)) (c : ∀ v, Rep K P al d v → Rep K P al d' v) : RS K B P al M (env.set j (some d')) σ H := by
  refine ⟨r.toRS0, by simp [r.slen], fun i x hx => ?_⟩
  by_cases hi : i = j
  · subst hi
    have hl := (List.getElem?_eq_some_iff.mp h).1
    rw [List.getElem?_set_self hl] at hx
    cases hx
    obtain ⟨v, h1, h2⟩ := r.slot i d h
    exact ⟨v, h1, c v h2⟩
  · rw [List.getElem?_set_ne (Ne.symm hi)] at hx
    exact r.slot i x hx
end
/-- try: .. except C as e: y = e -/
def wTryKeep (ok : List Str) (sub : Str → Bool) (i j : Nat) (wb : RXe → WS) (RX : RXe) : WS := fun k env M =>
  wb (fun n fs env' M' => Need (n ∈ ok) ∧ Need (i < env'.length ∧ j < env'.length) ∧ ifB (sub n) (k.nx ((env'.set j (some (.cel M'.length))).set i none) (M' ++ [.ptp [.obj n fs]])) (RX n fs env' M')) k env M
section
variable {X : Cx} {B : Bs} {x n : Str} {Cc : Addr} {i j : Nat} {body suite : List Stmt} {b₀ : Stmt} {np pos pos' : Pos} {RX : RXe} {ok : List Str} {sub : Str → Bool} {wb : RXe → WS}
theorem d_tryKeep (hs : X.stack = X.env :: X.outer) (hf : X.env.frame = some X.env.locals) (hN : X.N.Nodup) (hi : X.N[i]? = some n) (hln : X.env.kindOf n = some .local) (hc : Names X x (.ref Cc)) (tk : Takes X (WL X.K B RX)) (hij : i ≠ j)
    (hsub : ∀ n C, n ∈ ok → ClsAt X.K n C → PySem.W.exmOne X.K (.ref C) (.ref Cc) = some (sub n))
    (hb : ∀ (B' : Bs) (RX' : RXe) (pn : List (Addr × Obj)) (xe : Value → Shared → Prop), Takes (X.tr pn xe) (WL X.K B' RX') → DSs B' (X.tr pn xe) body (wb RX'))
    (hsu : ∀ (B' : Bs) (a : Addr) (oe : Obj) (pn : List (Addr × Obj)), DSs B' (X.suite a ((a, oe) :: pn)) (b₀ :: suite) (wAsg (wVar i) (gN j))) :
    DS B X (.Try body [.ExceptHandler (some (.Name x np)) (some n) (b₀ :: suite) pos'] [] [] pos) (wTryKeep ok sub i j wb RX) := by
  refine (ps_try_keep (Wout := WL X.K B RX) (tb := fun W D σ H => ∃ B' RX', (∀ c d σ H, WL X.K B' RX' c d σ H → W c d σ H) ∧ tDS X.K B' (wb RX') D σ H)
    (ts := fun a cls d D σ H => ∃ B', tDS X.K B' (wAsg (wVar i) (gN j)) D σ H) hs hf hN hi hln hc tk
    (fun W pn xe tkW po => ⟨fun pins s σ H D I ⟨B', RX', imp, h⟩ => (hb B' RX' pn xe (tkW.imp imp)).run pins s σ H D I h⟩)
    (fun a oe cls d pn hz hd => ⟨fun pins s σ H D I ⟨B', h⟩ => (hsu B' a oe pn).run pins s σ H D I h⟩)).imp fun D σ H => ?_
  rintro ⟨P, al, M, env, k, rs, hw, L⟩
  refine ⟨(P, al, H), _, fun c d σ' H' q => ?_, P, al, M, env, k, ⟨rs.toRS0.here, rs.slen, rs.slot⟩, hw, ⟨fun env' M' σ' H' P' al' e rs' q => L.nx _ _ _ _ _ _ e ⟨rs'.toRS0.rebase (rs.base.trans e), rs'.slen, rs'.slot⟩ q, fun d M' v H' P' al' e rs' r q => L.rt _ _ _ _ _ _ e (rs'.rebase (rs.base.trans e)) r q,
    fun env' M' σ' H' P' al' e rs' q => L.bk _ _ _ _ _ _ e ⟨rs'.toRS0.rebase (rs.base.trans e), rs'.slen, rs'.slot⟩ q, fun env' M' σ' H' P' al' e rs' q => L.ct _ _ _ _ _ _ e ⟨rs'.toRS0.rebase (rs.base.trans e), rs'.slen, rs'.slot⟩ q⟩⟩
  obtain ⟨C, nm, fs, env', P', al', M', rfl, ca, rs', xd, ho, hlen, q⟩ := q
  obtain ⟨hil, hjl⟩ := hlen.out
  have e0 : Ext P al H P' al' H' := rs'.base
  refine ⟨sub nm, hsub nm C ho.out ca, fun hb a oe hna hz hd => ?_, fun hb => ⟨C, nm, fs, env', P', al', M', rfl, ca, ⟨rs'.toRS0.rebase (rs.base.trans e0), rs'.slen, rs'.slot⟩, xd, q.2 hb⟩⟩
  have rs2 : RS X.K (P', al', H') P' al' M' env' σ' H' := ⟨rs'.toRS0.here, rs'.slen, rs'.slot⟩
  refine ⟨(P', al', H'), P', al', M', _, ⟨fun e m => e = (env'.set i (some (.adr a))).set j (some (.adr a)) ∧ m = M', fun _ _ => False, fun _ _ => False, fun _ _ => False⟩, rs2.put i (.adr a), ?_, ⟨fun env2 M2 σ2 H2 P2 al2 e rs3 q3 => ?_, fun _ _ _ _ _ _ _ _ _ z => z.elim, fun _ _ _ _ _ _ _ _ z => z.elim, fun _ _ _ _ _ _ _ _ z => z.elim⟩⟩
  · show wVar i _ _ _
    unfold wVar
    rw [List.getElem?_set_self hil]
    exact ⟨rfl, rfl⟩
  · obtain ⟨rfl, eM⟩ := q3
    rw [eM] at rs3
    intro na2
    have rs4 := rs3.drp i
    obtain ⟨P5, e5, r5, hx⟩ := xd_pub (xd.go e) rs4.toRS0
    obtain ⟨e6, r6⟩ := r5.cellE (a := a) (oe := oe) (l := [.obj nm fs]) na2 fun P7 al7 s7 p7 h7 => by
      refine ⟨C, d, oe, h7, ca, hz, hd, ?_⟩
      rcases hx with hx | ⟨dd, gs, g1, g2, g3⟩
      · exact .inl hx
      · exact .inr ⟨dd, gs, g1, s7 _ _ g2, g3.mono s7 p7⟩
    have rs6 := rs4.step (e5.trans e6) r6
    have hget : (((env'.set i (some (L3.D.adr a))).set j (some (L3.D.adr a))).set i none)[j]? = some (some (L3.D.adr a)) := by
      rw [List.getElem?_set_ne hij, List.getElem?_set_self (by simpa using hjl)]
    have la : (al2 ++ [a])[M'.length]? = some a := by
      rw [← rs4.len, List.getElem?_append_right (Nat.le_refl _), Nat.sub_self]; rfl
    have rs7 := rs6.retype (d' := .cel M'.length) hget fun v hv => by cases hv; exact .cel la
    have eq : ((((env'.set i (some (L3.D.adr a))).set j (some (L3.D.adr a))).set i none).set j (some (L3.D.cel M'.length))) = (env'.set j (some (.cel M'.length))).set i none := by
      apply List.ext_getElem?
      intro t
      by_cases h1 : t = i
      · subst h1
        rw [List.getElem?_set_ne (Ne.symm hij), List.getElem?_set_self (by simpa using hil), List.getElem?_set_self (by simpa using hil)]
      · by_cases h2 : t = j
        · subst h2
          rw [List.getElem?_set_self (by simpa using hjl), List.getElem?_set_ne hij, List.getElem?_set_self (by simpa using hjl)]
        · rw [List.getElem?_set_ne (Ne.symm h2), List.getElem?_set_ne (Ne.symm h1), List.getElem?_set_ne (Ne.symm h2), List.getElem?_set_ne (Ne.symm h1), List.getElem?_set_ne (Ne.symm h1), List.getElem?_set_ne (Ne.symm h2)]
    rw [eq] at rs7
    have ea := e0.trans (e.trans (e5.trans e6))
    exact L.nx _ _ _ _ _ _ ea ⟨rs7.toRS0.rebase (rs.base.trans ea), rs7.slen, rs7.slot⟩ (q.1 hb)
end
/-! ### e.f, isinstance(e, C) of such a cell -/
section
variable {X : Cx}
def tXe (K : PySem.W.Frag) (f : Str) (te : TE) : TE := fun σ H Q => te σ H fun x H1 => ∃ (a C : Addr) (oe : Obj) (dd : Addr) (fs : List (Str × V)) (v : V), x = .ref a ∧ H1 a = some (ExK a oe) ∧ XfC K C ∧ PySem.W.findIn K (.ref C) f = some none ∧
  Zc (.ref C) (some dd) oe ∧ (∃ vs, oe.data = .fields vs) ∧ H1 dd = some (.xd fs) ∧ fs.lookup f = some v ∧ Q v H1
theorem pe_xe {e : Expr} {te : TE} {pos : Pos} {n : Str} (he : PE X e te) (hb : attributeBase e n X.env (eval e X.env) = eval e X.env := by rfl) : PE X (.Attribute e n pos) (tXe X.K n te) := by
  refine ⟨fun pins s σ H Q I h => ?_⟩
  refine attr_of hb (thn (he.run pins s σ H _ I h) fun u s1 hh => ?_)
  obtain ⟨x, H1, I1, rx, a, C, oe, dd, fs, v, ex, hA, T, hno, hz, hf, ea, l, q⟩ := hh
  subst ex
  obtain rfl : u = Value.ref a := rx
  have ha : s1.heap.get? a = some oe := (I1.hok a _ hA).1
  obtain ⟨vs, hd⟩ := hf
  have hx : ObjOk X.prog X.w H1 s1.heap dd (.xd fs) := I1.hok dd _ ea
  obtain ⟨mA, hns, hr⟩ := hx
  obtain ⟨od, ho, hl⟩ := lookIn_ns hns
  obtain ⟨u, hu, ru⟩ := RelO.some_of (v := v) (o := mA n) (by rw [← l]; exact hr n)
  have J : PySem.W.InstAt s1.heap a oe C (some od) := ⟨ha, hz.1, by unfold PySem.W.notCls; rw [hd] <;> rfl, by rw [hz.2]; exact ho⟩
  exact HandSPX.exc_get I1.kIn J T.ga T.gg T.exC (PySem.W.findObj_own T.hdC hno rfl (by rw [hl, hu])) (handed_of ru) ⟨v, H1, I1.tok _, ru, q⟩
def rIsK (K : PySem.W.Frag) : List V → Hp → VK → Prop := fun xs H Q => ∃ (a C : Addr) (oe : Obj) (d : Option Addr) (c : V) (cv : Value) (b : Bool), xs = [.ref a, c] ∧ H a = some (ExK a oe) ∧ ErC K C ∧ Zc (.ref C) d oe ∧ (∃ vs, oe.data = .fields vs) ∧
  (∀ u, RelV c u → u = cv) ∧ PySem.W.kitOne K (.ref C) cv = some b ∧ (d = none ∨ ∃ dd gs, d = some dd ∧ H dd = some (.xd gs)) ∧ Q (.bl b) H
theorem call_isK : CallR X (.builtin "isinstance") (rIsK X.K) := by
  intro pins s σ H xs us Q I r h
  obtain ⟨a, C, oe, d, c, cv, b, rfl, hA, T, hz, hf, hcv, e, hd, q⟩ := h
  cases r with
  | cons rx rr =>
    cases rr with
    | cons rt rr =>
      cases rr
      cases rx
      have ec := hcv _ rt
      subst ec
      have hget : s.heap.get? a = some oe := (I.hok a _ hA).1
      obtain ⟨vs, hv⟩ := hf
      obtain ⟨oc, od, oda, osl⟩ := oe
      obtain ⟨h1, h2⟩ := hz
      dsimp only at h1 h2 hv
      subst h1 h2 hv
      have J : ∃ ob, PySem.W.InstAt s.heap a ⟨.ref C, od, .fields vs, osl⟩ C ob := by
        rcases hd with rfl | ⟨dd, gs, rfl, hx⟩
        · exact ⟨none, hget, rfl, rfl, trivial⟩
        · obtain ⟨mA, hns, _⟩ := (show ObjOk X.prog X.w H s.heap dd (.xd gs) from I.hok dd _ hx)
          obtain ⟨o, ho, _⟩ := lookIn_ns hns
          exact ⟨some o, hget, rfl, rfl, ho⟩
      obtain ⟨ob, J⟩ := J
      exact PySem.W.kia_one (PySem.W.kitx_exc T.cl T.ga T.gg T.sb T.ca T.cg T.tk T.ob) I.kIn J e (fun z => nomatch z) fun tk => ⟨.bl b, H, I.kept (t' := tk) fun _ _ z => z, rfl, q⟩
end
section
variable {X : Cx} {B : Bs} {K : PySem.W.Frag} {P : Hp} {al : List Addr} {M : Mt} {H : Hp} {i : Nat} {n : Str} {fs : List (Str × D)} {v : V}
/-- the cell i is an error of the class n -/
theorem ex_at (rs : RS0 K B P al M H) (hm : M[i]? = some (.ptp [.obj n fs])) (r : Rep K P al (.cel i) v) :
    ∃ a C d oe, v = .ref a ∧ H a = some (ExK a oe) ∧ ClsAt K n C ∧ Zc (.ref C) d oe ∧ (∃ vs, oe.data = .fields vs) ∧ ((d = none ∧ fs = []) ∨ ∃ dd gs, d = some dd ∧ H dd = some (.xd gs) ∧ RepFs K P al fs gs) := by
  cases r with
  | cel e =>
    rename_i a
    have c : ExCell K P al [.obj n fs] a := rs.cell i a _ e hm
    obtain ⟨C, d, oe, h1, h2, h3, h4, h5⟩ := c
    refine ⟨a, C, d, oe, rfl, rs.same _ _ h1, h2, h3, h4, ?_⟩
    rcases h5 with h5 | ⟨dd, gs, g1, g2, g3⟩
    · exact .inl h5
    · exact .inr ⟨dd, gs, g1, rs.same _ _ g2, g3⟩
def wXe (ns : List Str) (f : Str) (w : WE) : WE := fun env M R => w env M fun d M1 => match d with
  | .cel i => match M1[i]? with
    | some (.ptp [.obj n fs]) => Need (n ∈ ns) ∧ match fs.lookup f with
      | some v => R v M1
      | none => False
    | _ => False
  | _ => False
theorem d_xe {e : Expr} {pos : Pos} {ns : List Str} {f : Str} {w : WE} (hT : ∀ n C, n ∈ ns → ClsAt X.K n C → XfC X.K C ∧ PySem.W.findIn X.K (.ref C) f = some none) (he : DE B X e w) (hb : attributeBase e f X.env (eval e X.env) = eval e X.env := by rfl) :
    DE B X (.Attribute e f pos) (wXe ns f w) := by
  refine (pe_xe he hb).imp fun σ H Q => ?_
  rintro ⟨P, al, M, env, R, rs, hw, L⟩
  refine ⟨P, al, M, env, _, rs, hw, fun d M1 y H1 P1 al1 e1 rs1 r1 q => ?_⟩
  split at q
  · split at q
    · rename_i i n fs hm
      obtain ⟨hn, q⟩ := q
      split at q
      · rename_i v' el
        obtain ⟨a, C, d, oe, rfl, hA, ca, hz, hf, h5⟩ := ex_at rs1.toRS0 hm r1
        obtain ⟨T, hno⟩ := hT n C hn.out ca
        rcases h5 with ⟨_, h⟩ | ⟨dd, gs, rfl, h3, h4⟩
        · rw [h] at el; cases el
        · obtain ⟨z, l, rz⟩ := h4.find el
          exact ⟨a, C, oe, dd, gs, z, rfl, hA, T, hno, hz, hf, h3, l, (L.after e1).here rs1 rz q⟩
      · exact q.elim
    · exact q.elim
  · exact q.elim
@[irreducible] def cIsK (tb : List ((Str × Str) × Bool)) (tt : List ((Str × String) × Bool)) : WCl := fun ds M R => match ds with
  | [.cel i, .cls c] => match M[i]? with
    | some (.ptp [.obj n _]) => match tb.lookup (n, c) with
      | some r => R (.bl r) M
      | none => False
    | _ => False
  | [.cel i, .ty c] => match M[i]? with
    | some (.ptp [.obj n _]) => match tt.lookup (n, c) with
      | some r => R (.bl r) M
      | none => False
    | _ => False
  | _ => False
theorem isK_cls {tb : List ((Str × Str) × Bool)} {tt : List ((Str × String) × Bool)} {M : Mt} {i : Nat} {n c : Str} {fs : List (Str × D)} {r : Bool} {R : D → Mt → Prop} (h : M[i]? = some (.ptp [.obj n fs])) (hl : tb.lookup (n, c) = some r) (k : R (.bl r) M) : cIsK tb tt [.cel i, .cls c] M R := by
  unfold cIsK
  simp only [h, hl]; exact k
theorem isK_ty {tb : List ((Str × Str) × Bool)} {tt : List ((Str × String) × Bool)} {M : Mt} {i : Nat} {n : Str} {c : String} {fs : List (Str × D)} {r : Bool} {R : D → Mt → Prop} (h : M[i]? = some (.ptp [.obj n fs])) (hl : tt.lookup (n, c) = some r) (k : R (.bl r) M) : cIsK tb tt [.cel i, .ty c] M R := by
  unfold cIsK
  simp only [h, hl]; exact k
/-- what the classes say -/
structure KitTab (K : PySem.W.Frag) (tb : List ((Str × Str) × Bool)) (tt : List ((Str × String) × Bool)) : Prop where
  cls : ∀ n c r, tb.lookup (n, c) = some r → ∃ C Cc, ClsAt K n C ∧ ClsAt K c Cc ∧ ErC K C ∧ PySem.W.kitOne K (.ref C) (.ref Cc) = some r
  tys : ∀ n c r, tt.lookup (n, c) = some r → ∃ C, ClsAt K n C ∧ ErC K C ∧ PySem.W.kitOne K (.ref C) (.type c) = some r
theorem cIsK_ok {tb : List ((Str × Str) × Bool)} {tt : List ((Str × String) × Bool)} (T : KitTab K tb tt) : CallD K B (rIsK K) (cIsK tb tt) := by
  intro P al M env σ H vs ds R Q rs r h L
  unfold cIsK at h
  split at h
  · rename_i i c
    cases r with
    | cons r1 t => cases t with
      | cons r2 t =>
        cases t
        split at h
        · rename_i n fs hm
          split at h
          · rename_i z hl
            obtain ⟨a, C, d, oe, rfl, hA, ca, hz, hf, h5⟩ := ex_at rs.toRS0 hm r1
            obtain ⟨C', Cc, c1, c2, er, kit⟩ := T.cls _ _ _ hl
            obtain rfl := ca.one c1
            cases r2 with
            | cls cc =>
              obtain rfl := cc.one c2
              refine ⟨a, C, oe, d, _, _, z, rfl, hA, er, hz, hf, fun u ru => by cases ru; rfl, kit, ?_, L.here rs (.bl _) h⟩
              rcases h5 with ⟨h, _⟩ | ⟨dd, gs, h1, h3, _⟩
              · exact .inl h
              · exact .inr ⟨dd, gs, h1, h3⟩
          · exact h.elim
        · exact h.elim
  · rename_i i c
    cases r with
    | cons r1 t => cases t with
      | cons r2 t =>
        cases t
        split at h
        · rename_i n fs hm
          split at h
          · rename_i z hl
            obtain ⟨a, C, d, oe, rfl, hA, ca, hz, hf, h5⟩ := ex_at rs.toRS0 hm r1
            obtain ⟨C', c1, er, kit⟩ := T.tys _ _ _ hl
            obtain rfl := ca.one c1
            cases r2
            refine ⟨a, C, oe, d, _, _, z, rfl, hA, er, hz, hf, fun u ru => ru, kit, ?_, L.here rs (.bl _) h⟩
            rcases h5 with ⟨h, _⟩ | ⟨dd, gs, h1, h3, _⟩
            · exact .inl h
            · exact .inr ⟨dd, gs, h1, h3⟩
          · exact h.elim
        · exact h.elim
  · exact h.elim
theorem KitTab.nil {K : PySem.W.Frag} : KitTab K [] [] := ⟨fun _ _ _ h => (by cases h), fun _ _ _ h => (by cases h)⟩
theorem KitTab.cons {n c : Str} {r : Bool} {C Cc : Addr} {tb : List ((Str × Str) × Bool)} {tt : List ((Str × String) × Bool)} (c1 : ClsAt K n C) (c2 : ClsAt K c Cc) (er : ErC K C) (kit : PySem.W.kitOne K (.ref C) (.ref Cc) = some r) (T : KitTab K tb tt) : KitTab K (((n, c), r) :: tb) tt := by
  refine ⟨fun n' c' r' h => ?_, T.tys⟩
  rw [List.lookup_cons] at h
  split at h
  · rename_i e
    have e := beq_iff_eq.mp e
    cases h; cases e
    exact ⟨C, Cc, c1, c2, er, kit⟩
  · exact T.cls _ _ _ h
theorem KitTab.consT {n : Str} {c : String} {r : Bool} {C : Addr} {tb : List ((Str × Str) × Bool)} {tt : List ((Str × String) × Bool)} (c1 : ClsAt K n C) (er : ErC K C) (kit : PySem.W.kitOne K (.ref C) (.type c) = some r) (T : KitTab K tb tt) : KitTab K tb (((n, c), r) :: tt) := by
  refine ⟨T.cls, fun n' c' r' h => ?_⟩
  rw [List.lookup_cons] at h
  split at h
  · rename_i e
    have e := beq_iff_eq.mp e
    cases h; cases e
    exact ⟨C, c1, er, kit⟩
  · exact T.tys _ _ _ h
end

/-- all of these are caught -/
inductive ExAll (K : PySem.W.Frag) (Cc : Addr) : List Str → Prop
  | nil : ExAll K Cc []
  | cons {m : Str} {C : Addr} {ok : List Str} : ClsAt K m C → PySem.W.exmOne K (.ref C) (.ref Cc) = some true → ExAll K Cc ok → ExAll K Cc (m :: ok)
theorem ExAll.look {K : PySem.W.Frag} {Cc : Addr} {ok : List Str} (t : ExAll K Cc ok) : ∀ n C, n ∈ ok → ClsAt K n C → PySem.W.exmOne K (.ref C) (.ref Cc) = some ((fun _ => true) n) := by
  induction t with
  | nil => intro n C h; cases h
  | @cons m Cm ok ca e t ih =>
    intro n C h hc
    rcases List.mem_cons.mp h with rfl | h
    · obtain rfl := ca.one hc
      exact e
    · exact ih n C h hc
/-- these have a field f -/
inductive XeTab (K : PySem.W.Frag) (f : Str) : List Str → Prop
  | nil : XeTab K f []
  | cons {m : Str} {C : Addr} {ok : List Str} : ClsAt K m C → XfC K C → PySem.W.findIn K (.ref C) f = some none → XeTab K f ok → XeTab K f (m :: ok)
theorem XeTab.look {K : PySem.W.Frag} {f : Str} {ok : List Str} (t : XeTab K f ok) : ∀ n C, n ∈ ok → ClsAt K n C → XfC K C ∧ PySem.W.findIn K (.ref C) f = some none := by
  induction t with
  | nil => intro n C h; cases h
  | @cons m Cm ok ca x e t ih =>
    intro n C h hc
    rcases List.mem_cons.mp h with rfl | h
    · obtain rfl := ca.one hc
      exact ⟨x, e⟩
    · exact ih n C h hc
end L3

namespace L3
open PySem PySem.Spec PyProof.Rows L2
/-! ### for over a list of the table that stays as it is meanwhile -/
def WalkQ (c : Mt → Prop) (K : PySem.W.Frag) (J : It) (ds : List D) (P : Hp) (al : List Addr) : Prop :=
  ∀ (B : Bs) (P2 : Hp) (al2 : List Addr) (M2 : Mt) (H2 : Hp), Same P P2 → al <+: al2 → RS0 K B P2 al2 M2 H2 → c M2 →
    (∀ (i : Nat) (d : D), ds[i]? = some d → J.go i H2 ∧ ∀ x H3, J.yld i H2 x H3 → ∃ P3, Ext P2 al2 H2 P3 al2 H3 ∧ RS0 K B P3 al2 M2 H3 ∧ Rep K P3 al2 d x) ∧ J.stop ds.length H2
abbrev WIC := Ev → Mt → ((Mt → Prop) → List D → Mt → Prop) → Prop
def tDIC (K : PySem.W.Frag) (B : Bs) (w : WIC) : TI := fun σ H R => ∃ P al M env RR, RS K B P al M env σ H ∧ w env M RR ∧
  ∀ c ds M' H' P' al' J, Ext P al H P' al' H' → RS K B P' al' M' env σ H' → WalkQ c K J ds P' al' → RR c ds M' → R J H'
abbrev DIC (B : Bs) (X : Cx) (tg e : Expr) (w : WIC) : Prop := PI X tg e (tDIC X.K B w)
theorem Walk.c {K : PySem.W.Frag} {J : It} {ds : List D} {P : Hp} {al : List Addr} (h : Walk K J ds P al) (c : Mt → Prop) : WalkQ c K J ds P al := fun B P2 al2 M2 H2 s p r _ => h B P2 al2 M2 H2 s p r
/-- the turns: c is asked ahead of each -/
def forLC (c : Mt → Prop) (g : WG) (b : WS) (k : DEnds) : List D → Ev → Mt → Prop
  | [], env, M => c M ∧ k.nx env M
  | d :: r, env, M => c M ∧ ∃ N : Ev → Mt → Prop, (∀ env' M', N env' M' → forLC c g b k r env' M') ∧ g d env M fun env1 M1 => b { nx := N, ct := N, bk := k.nx, rt := k.rt } env1 M1
def wForC (wi : WIC) (g : WG) (b : WS) : WS := fun k env M => wi env M fun c ds M1 => forLC c g b k ds env M1
section
variable {X : Cx} {B : Bs} {e tg : Expr} {pos : Pos}
theorem forLC_c {c : Mt → Prop} {g : WG} {b : WS} {k : DEnds} {ds : List D} {env : Ev} {M : Mt} (h : forLC c g b k ds env M) : c M := by
  cases ds with
  | nil => exact h.1
  | cons d r => exact h.1
theorem d_forC {body : List Stmt} {wi : WIC} {g : WG} {wb : WS} (hp : PassesOwn (model X.prog X.w) X.A X.env X.xe) (hc : X.calm = true) (hi : DIC B X tg e wi) (hg : DG B X tg g) (hb : DSs B X body wb) (hs : ∀ x, foldedSetIterable e X.env x = pure x := by intro _; rfl) :
    DS B X (.For tg e body [] pos) (wForC wi g wb) := by
  refine (ps_for hp hc hi hg hb hs).imp fun D σ H => ?_
  rintro ⟨P, al, M, env, k, rs, hw, L⟩
  refine ⟨P, al, M, env, _, rs, hw, fun c ds M1 H1 P1 al1 J e1 rs1 wk q => ?_⟩
  refine ⟨fun i m σ2 H2 => m = ds.length - i ∧ i ≤ ds.length ∧ ∃ P2 al2 M2 env2, Ext P1 al1 H1 P2 al2 H2 ∧ RS X.K B P2 al2 M2 env2 σ2 H2 ∧ forLC c g wb k (ds.drop i) env2 M2, ⟨ds.length, by simp, Nat.zero_le _, P1, al1, M1, env, Ext.refl, rs1, q⟩, ?_⟩
  rintro i m σ2 H2 ⟨rfl, hi, P2, al2, M2, env2, e2, rs2, q2⟩
  obtain ⟨wk1, wk2⟩ := wk B P2 al2 M2 H2 e2.pp e2.pre rs2.toRS0 (forLC_c q2)
  by_cases hlt : i < ds.length
  · right
    have hd : ds[i]? = some ds[i] := List.getElem?_eq_getElem hlt
    obtain ⟨go, yl⟩ := wk1 i _ hd
    rw [List.drop_eq_getElem_cons hlt] at q2
    obtain ⟨_, N, hN, q2⟩ := q2
    refine ⟨go, fun σ' H' => ∃ P' al' M' env', Ext P1 al1 H1 P' al' H' ∧ RS X.K B P' al' M' env' σ' H' ∧ N env' M', fun σ' H' ⟨P', al', M', env', e', rs', n'⟩ => ⟨ds.length - (i + 1), by omega, rfl, hlt, P', al', M', env', e', rs', hN _ _ n'⟩, fun x H3 y => ?_⟩
    obtain ⟨P3, e3, r3, rx⟩ := yl x H3 y
    refine ⟨P3, al2, M2, env2, _, _, rs2.step e3 r3, rx, q2, fun env4 M4 σ4 H4 P4 al4 e4 rs4 q4 => ?_⟩
    have e14 := e2.trans (e3.trans e4)
    refine ⟨P4, al4, M4, env4, _, rs4, q4, ⟨fun env5 M5 σ5 H5 P5 al5 e5 rs5 n5 => ⟨P5, al5, M5, env5, e14.trans e5, rs5, n5⟩, fun d M5 v H5 P5 al5 e5 rs5 r5 q5 => L.rt _ _ _ _ _ _ (e1.trans (e14.trans e5)) rs5 r5 q5, fun env5 M5 σ5 H5 P5 al5 e5 rs5 q5 => L.nx _ _ _ _ _ _ (e1.trans (e14.trans e5)) rs5 q5, fun env5 M5 σ5 H5 P5 al5 e5 rs5 n5 => ⟨P5, al5, M5, env5, e14.trans e5, rs5, n5⟩⟩⟩
  · left
    have ei : i = ds.length := by omega
    subst ei
    rw [List.drop_length] at q2
    exact ⟨wk2, L.nx _ _ _ _ _ _ (e1.trans e2) rs2 q2.2⟩
end
theorem forLC_inv {c : Mt → Prop} {g : WG} {b : WS} {k : DEnds} (I : Nat → Ev → Mt → Prop) {ds : List D} {env : Ev} {M : Mt} (h0 : I 0 env M) (hc : ∀ i env M, I i env M → c M)
    (hs : ∀ (i : Nat) (d : D) (env : Ev) (M : Mt), ds[i]? = some d → I i env M → g d env M fun env1 M1 => b { nx := I (i + 1), ct := I (i + 1), bk := k.nx, rt := k.rt } env1 M1)
    (hd : ∀ env M, I ds.length env M → k.nx env M) : forLC c g b k ds env M := by
  have key : ∀ (n i : Nat), i + n = ds.length → ∀ env M, I i env M → forLC c g b k (ds.drop i) env M := by
    intro n
    induction n with
    | zero =>
      intro i hi env M h
      rw [List.drop_eq_nil_of_le (by omega)]
      have : i = ds.length := by omega
      subst this
      exact ⟨hc _ _ _ h, hd _ _ h⟩
    | succ n ih =>
      intro i hi env M h
      have hlt : i < ds.length := by omega
      rw [List.drop_eq_getElem_cons hlt]
      exact ⟨hc _ _ _ h, I (i + 1), fun env' M' h' => ih (i + 1) (by omega) env' M' h', hs i _ env M (List.getElem?_eq_getElem hlt) h⟩
  exact key ds.length 0 (by omega) env M h0
section
variable {K : PySem.W.Frag} {a : Addr} {ds : List D} {P : Hp} {al : List Addr} {i : Nat}
theorem cell_lst {B : Bs} {P2 : Hp} {al2 : List Addr} {M2 : Mt} {H2 : Hp} (r0 : RS0 K B P2 al2 M2 H2) (ha : al2[i]? = some a) (hm : M2[i]? = some (.lst ds)) : ∃ xs, SqL K H2 a xs ∧ Reps K P2 al2 ds xs := by
  obtain ⟨_, xs, h1, h2⟩ := r0.cell i a _ ha hm
  exact ⟨xs, SqL.of h1, h2⟩
theorem walkQ_list (ha : al[i]? = some a) : WalkQ (fun M => M[i]? = some (.lst ds)) K (Itl K a) ds P al := by
  intro B P2 al2 M2 H2 s p r0 hm
  obtain ⟨xs, h2, r2⟩ := cell_lst r0 (pre_get p ha) hm
  refine ⟨fun j d hd => ?_, ⟨xs, h2, by rw [r2.length]; exact Nat.le_refl _⟩⟩
  obtain ⟨v, hv, rv⟩ := r2.get hd
  refine ⟨⟨xs, v, h2, hv⟩, fun x H3 ⟨e, f⟩ => ⟨P2, ?_⟩⟩
  subst e
  have := f _ h2
  rw [hv] at this; cases this
  exact ⟨Ext.refl, r0, rv⟩
theorem walkQ_enum (ha : al[i]? = some a) : WalkQ (fun M => M[i]? = some (.lst ds)) K (Ite K a) (enumD 0 ds) P al := by
  intro B P2 al2 M2 H2 s p r0 hm
  obtain ⟨xs, h2, r2⟩ := cell_lst r0 (pre_get p ha) hm
  refine ⟨fun j d hd => ?_, ⟨xs, h2, by rw [enumD_len, r2.length]; exact Nat.le_refl _⟩⟩
  obtain ⟨x, hx, rfl⟩ := enumD_get ds 0 j d hd
  obtain ⟨v, hv, rv⟩ := r2.get hx
  refine ⟨⟨xs, v, h2, hv⟩, fun y H3 ⟨T, z, e1, e2, e3, f⟩ => ?_⟩
  have hz := f _ h2
  rw [hv] at hz; cases hz
  subst e1
  rw [show (0 + j : Nat) = j from Nat.zero_add j]
  exact enum_turn r0 e2 rv e3
end
def wEnumC (was : WA) : WIC := fun env M RR => was env M fun ds M1 => match ds with
  | [.lst l] => RR (fun _ => True) (enumD 0 l) M1
  | [.rol l] => RR (fun _ => True) (enumD 0 l) M1
  | [.tup l] => RR (fun _ => True) (enumD 0 l) M1
  | [.ptp l] => RR (fun _ => True) (enumD 0 l) M1
  | [.cel i] => match M1[i]? with
    | some (.lst l) => RR (fun M => M[i]? = some (.lst l)) (enumD 0 l) M1
    | _ => False
  | _ => False
theorem di_enumC {X : Cx} {B : Bs} {e : Expr} {was : WA} {elts : List Expr} {kk : Nat} {p pos tpos : Pos} (hg : Gl X "enumerate") (hm : X.mg "enumerate" = none) (ha : DA B X [e] was) (hs : starEach [e] X.env = [(false, eval e X.env)] := by rfl) :
    DIC B X (.Tuple elts kk tpos) (.Call (.Name "enumerate" p) [e] [] pos) (wEnumC was) := by
  refine (pi_enumA hg hm ha hs).imp fun σ H R => ?_
  rintro ⟨P, al, M, env, RR, rs, hw, L⟩
  refine ⟨P, al, M, env, _, rs, hw, fun ds M1 vs H1 P1 al1 e1 rs1 r1 q => ?_⟩
  split at q
  · cases r1 with
    | cons q1 t =>
      cases t
      cases q1 with
      | lst h1 h2 => exact .inl ⟨_, _, rfl, SqL.of (rs1.same _ _ h1), L _ _ _ _ _ _ _ e1 rs1 ((walk_enumL (fun _ s => SqL.of (s _ _ h1)) h2).c _) q⟩
  · cases r1 with
    | cons q1 t =>
      cases t
      cases q1 with
      | rol h1 h2 => exact .inl ⟨_, _, rfl, rs1.same.seq h1, L _ _ _ _ _ _ _ e1 rs1 ((walk_enumL (fun _ s => s.seq h1) h2).c _) q⟩
  · cases r1 with
    | cons q1 t =>
      cases t
      cases q1 with
      | tup h1 h2 => exact .inr ⟨_, _, rfl, same_seqT rs1.same h1, L _ _ _ _ _ _ _ e1 rs1 ((walk_enumT h1 h2).c _) q⟩
  · cases r1 with
    | cons q1 t =>
      cases t
      cases q1 with
      | ptp h1 h2 => exact .inr ⟨_, _, rfl, same_seqT rs1.same h1.seqT, L _ _ _ _ _ _ _ e1 rs1 ((walk_enumT h1.seqT h2).c _) q⟩
  · cases r1 with
    | cons q1 t =>
      cases t
      split at q
      · rename_i i l hl
        cases q1 with
        | cel ha =>
          obtain ⟨xs, h1, _⟩ := cell_lst rs1.toRS0 ha hl
          exact .inl ⟨_, _, rfl, h1, L _ _ _ _ _ _ _ e1 rs1 (walkQ_enum ha) q⟩
      · exact q.elim
  · exact q.elim
def wItC (we : WE) : WIC := fun env M RR => we env M fun d M1 => match d with
  | .lst l => RR (fun _ => True) l M1
  | .rol l => RR (fun _ => True) l M1
  | .tup l => RR (fun _ => True) l M1
  | .ptp l => RR (fun _ => True) l M1
  | .cel i => match M1[i]? with
    | some (.lst l) => RR (fun M => M[i]? = some (.lst l)) l M1
    | _ => False
  | _ => False
theorem di_anyC {X : Cx} {B : Bs} {e tg : Expr} {we : WE} (h : DE B X e we) : DIC B X tg e (wItC we) := by
  refine (pi_any h).imp fun σ H R => ?_
  rintro ⟨P, al, M, env, RR, rs, hw, L⟩
  refine ⟨P, al, M, env, _, rs, hw, fun d M1 v H1 P1 al1 e1 rs1 r1 q => ?_⟩
  split at q
  · cases r1 with
    | lst h1 h2 => exact .inl ⟨_, rfl, ⟨_, SqL.of (rs1.same _ _ h1)⟩, L _ _ _ _ _ _ _ e1 rs1 ((walk_list h1 h2).c _) q⟩
  · cases r1 with
    | rol h1 h2 => exact .inl ⟨_, rfl, ⟨_, rs1.same.seq h1⟩, L _ _ _ _ _ _ _ e1 rs1 ((walk_rol h1 h2).c _) q⟩
  · cases r1 with
    | tup h1 h2 => exact .inr (.inl ⟨_, rfl, ⟨_, same_seqT rs1.same h1⟩, L _ _ _ _ _ _ _ e1 rs1 ((walk_tup h1 h2).c _) q⟩)
  · cases r1 with
    | ptp h1 h2 => exact .inr (.inl ⟨_, rfl, ⟨_, same_seqT rs1.same h1.seqT⟩, L _ _ _ _ _ _ _ e1 rs1 ((walk_tup h1.seqT h2).c _) q⟩)
  · split at q
    · rename_i i l hl
      cases r1 with
      | cel ha =>
        obtain ⟨xs, h1, _⟩ := cell_lst rs1.toRS0 ha hl
        exact .inl ⟨_, rfl, ⟨_, h1⟩, L _ _ _ _ _ _ _ e1 rs1 (walkQ_list ha) q⟩
    · exact q.elim
  · exact q.elim
end L3

namespace L3
open PySem PySem.Spec PyProof.Rows L2
/-! ### C(e, .., k = v, ..): arguments one by one, some by name -/
section
variable {X : Cx} {B : Bs} {CX : CXT} {k np : Nat} {f C : Addr} {sp : DSp} {n x : Str} {p kpos pos : Pos} {e : Expr} {es : List Expr} {was wks : WA} {RX : RXe} {kws : List Keyword} {names : List Str}
theorem d_mkPK (ca : ClsAt X.K n C) (Mc : Mk X.K C f) (F : FnW X.prog X.w X.K X.mg X.base CX k f (spSK X.K (np + 1) names sp)) (hr : Room (k + 1) X.A) (hx : Rz X B CX RX) (hg : Gl X x) (hm : X.mg x = some (.ref C)) (ha : DA B X (e :: es) was) (hkw : DK B X kws wks)
    (hall : (backToKw pos (keywordEach kws X.env)).all (·.1.isSome) = true := by rfl) (hks : (backToKw pos (keywordEach kws X.env)).filterMap (·.1) = names := by rfl) (hdx : (x == ("__debug__" : Str)) = false := by decide)
    (he : starEach (e :: es) X.env = (false, eval e X.env) :: starEach es X.env := by rfl) (hpl : ((backTo pos (starEach (e :: es) X.env)).any (·.1) || (backToKw pos (keywordEach kws X.env)).any (·.1.isNone)) = false := by rfl) : DE B X (.Call (.Name x p) (e :: es) kws pos) (wMkSK n np names sp RX was wks) := by
  refine ⟨fun pins s σ H Q I h => ?_⟩
  obtain ⟨P, al, M, env, R, rs, hw, L⟩ := h
  refine wpAny_Call_Name_kw (ld_glob I hg hm (PySem.W.callWith_KW (h₀ := X.base) I.ok.mod.kin Mc.kp hall ?_ hpl he) hdx)
  refine thn (ha.run pos pins s σ H (fun vs H1 => tDA X.K B wks σ H1 fun zs H2 => zs.length = names.length ∧ ∀ a dx, H2 a = none → H2 dx = none → dx ≠ a → spSK X.K (np + 1) names sp (V.ref a :: vs) (names.zip zs) (upd (upd H2 dx (.own a)) a (.ins C dx [])) (fun v H3 => v = .non ∧ Q (.ref a) H3) (L2.WE (WL X.K B RX) σ)) I
    ⟨P, al, M, env, _, rs, hw, fun ds M1 vs H1 P1 al1 e1 rs1 r1 q => ⟨P1, al1, M1, env, _, rs1, q, fun kds M2 zs H2 P2 al2 e2 rs2 r2 q2 => ?_⟩⟩) fun us s1 ⟨vs, H1, I1, rv, q⟩ => ?_
  · obtain ⟨hn, q2⟩ := q2
    obtain ⟨n1, n2, n3⟩ := hn.out
    rw [r1.length] at n1 n2
    rw [r2.length] at n3
    exact ⟨n3, fun a dx hx hd ne => mk_spSK ca rs2 (r1.mono e2.pp e2.pre) r2 (L.after (e1.trans e2)) hx hd ne n1 n2 n3 q2⟩
  · refine thn (hkw.run pos pins s1 σ H1 _ I1 q) fun ws s2 ⟨zs, H2, I2, rz, l1, q2⟩ => ⟨I2.kIn, ?_⟩
    rw [hks]
    exact make_atW Mc F hr (hx σ) I2 rv (zip_kv rz) q2
end
/-! ### x + y of lists: a new list that will change -/
section
variable {K : PySem.W.Frag} {B : Bs}
def oAddM : WO2 := fun x y M R => match viewD M x, viewD M y with
  | .lst a, .lst b => Need (a.length + b.length ≤ sizeLine) ∧ R (.cel M.length) (M ++ [.lst (a ++ b)])
  | _, _ => False
theorem oAddM_ok : OpD K B (rAddU K) oAddM := by
  intro P al M env σ H x y dx dy R Q rs r1 r2 h L
  unfold oAddM at h
  split at h
  · rename_i s t e1 e2
    obtain ⟨a, xs, rfl, h1, q1⟩ := view_lst rs.toRS0 r1 e1
    obtain ⟨b, ys, rfl, h2, q2⟩ := view_lst rs.toRS0 r2 e2
    refine .inr (.inr (.inl ⟨a, b, xs, ys, rfl, rfl, h1, h2, by rw [← q1.length, ← q2.length]; exact h.1.out, fun p hp => ?_⟩))
    exact L.allocM rs hp (q1.append q2) h.2
  · exact h.elim
end
/-- all arguments are there -/
theorem fnR_nil {P : Program} {w : World} {K : PySem.W.Frag} {mg : Str → Option Value} {base : Heap} {CX : CXT} {k : Nat} {f : Addr} {sp : Sp} (F : FnR P w K mg base CX k f sp) : FnR P w K mg base CX k f (fun vs H Q E => sp (vs ++ []) H Q E) := by
  have e : (fun (vs : List V) (H : Hp) (Q : VK) (E : XK) => sp (vs ++ []) H Q E) = sp := by
    funext vs H Q E; rw [List.append_nil]
  rw [e]; exact F
/-! ### a, b, .. = a list -/
def gTL (n : Nat) (g : WGs) : WG := fun d env M R => match d with
  | .lst ds => Need (ds.length = n) ∧ g ds env M R
  | _ => False
theorem dg_lst {X : Cx} {B : Bs} {es : List Expr} {pos : Pos} {k : Nat} {g : WGs} {n : Nat} (hc : X.calm = true) (h : DGs B X es g) (hn : (assignEach es X.env).length = n := by rfl) (hst : (assignEach es X.env).findIdx? (·.1) = none := by rfl) : DG B X (.Tuple es k pos) (gTL n g) := by
  refine (pg_lst hc h hn hst).imp fun v σ H Q => ?_
  rintro ⟨P, al, M, env, d, R, rs, r, hw, L⟩
  unfold gTL at hw
  split at hw
  · cases r with
    | lst h1 h2 => exact ⟨_, _, rfl, SqL.of (rs.same _ _ h1), by rw [← h2.length]; exact hw.1.out, P, al, M, env, _, R, rs, h2, hw.2, L⟩
  · exact hw.elim
end L3

namespace L3
open PySem PySem.Spec PyProof.Rows L2 HotX
/-! ### raise C(..) from e, in the except suite that names e -/
def causeFrom (h : Heap) (a : Addr) (c : Value) : Heap := (h.update a (Obj.mapFields (·.setIfInBounds 3 c))).update a (Obj.mapFields (·.setIfInBounds 4 (.bool true)))
theorem causeFrom_at {h : Heap} {a : Addr} {c : Value} {oe : Obj} {vs : Array Value} (ha : h.get? a = some oe) (hd : oe.data = .fields vs) :
    (causeFrom h a c).get? a = some ((oe.mapFields (·.setIfInBounds 3 c)).mapFields (·.setIfInBounds 4 (.bool true))) ∧ ((oe.mapFields (·.setIfInBounds 3 c)).mapFields (·.setIfInBounds 4 (.bool true))).data = .fields ((vs.setIfInBounds 3 c).setIfInBounds 4 (.bool true)) := by
  have hd3 := Obj.data_mapFields hd (·.setIfInBounds 3 c)
  have ha3 := Heap.get?_update_self (Obj.mapFields (·.setIfInBounds 3 c)) ha (Obj.isFreed_of_fields hd3)
  have hd4 := Obj.data_mapFields hd3 (·.setIfInBounds 4 (.bool true))
  exact ⟨Heap.get?_update_self (Obj.mapFields (·.setIfInBounds 4 (.bool true))) ha3 (Obj.isFreed_of_fields hd4), hd4⟩
theorem causeFrom_other {h : Heap} {a b : Addr} {c : Value} (hne : a ≠ b) : (causeFrom h a c).get? b = h.get? b := by
  unfold causeFrom
  rw [Heap.get?_update_other _ _ hne, Heap.get?_update_other _ _ hne]
theorem raise_from_hot {prog : Program} {w : World} {A : Around} {E : Value → Shared → Prop} {env : Env} {s : Shared} {x c : Sem Value} {Q : Flow → Shared → Prop} {x1 : Addr}
    (h : wpAny (model prog w) A x (fun v s₁ => ∃ a oe vs cls o1 vs1 cls1, v = .ref a ∧ s₁.heap.get? a = some oe ∧ oe.cls = cls ∧ oe.data = .fields vs ∧ vs[1]? = some .none ∧ 4 < vs.size ∧ x1 ≠ a ∧ HotAt A x1 s₁.heap ∧
      s₁.heap.get? x1 = some o1 ∧ o1.cls = cls1 ∧ o1.data = .fields vs1 ∧ PySem.W.Looks (model prog w) s₁.heap (isSubtype cls1 (.type "BaseException")) true ∧ (∀ Q' : Value → Shared → Prop, Q' (.ref x1) s₁ → wpAny (model prog w) A c Q' E s₁) ∧
      PySem.W.Looks (model prog w) s₁.heap (isSubtype cls (.type "BaseException")) true ∧ PySem.W.Looks (model prog w) (causeFrom s₁.heap a (.ref x1)) (typeOf cls) (.type "type") ∧
      E (.ref a) { s₁ with heap := (causeFrom s₁.heap a (.ref x1)).update a (Obj.mapFields (·.setIfInBounds 2 (.ref x1))) }) E s) :
    wpAny (model prog w) A (raiseStmt env (some x) (some c)) Q E s := by
  unfold raiseStmt
  dsimp only
  refine wpAny_bind (wpAny_mono h (fun v s₁ h₁ => ?_) fun _ _ x => x)
  obtain ⟨a, oe, vs, cls, o1, vs1, cls1, rfl, ha, hcls, hd, h1, hi, hne, hot, hx1, hc1, hdx, Lx, hcs, L1, L3, hE⟩ := h₁
  have LT : PySem.W.Looks (model prog w) s₁.heap (typeOf (.ref a)) cls := fun A Q E s k q => wpAny_typeOf_ref (k _ _ ha) (by rw [hcls]; exact q)
  have LI : PySem.W.Looks (model prog w) s₁.heap (isInstance (.ref a) (.type "BaseException")) true := LT.andThen L1
  have LTx : PySem.W.Looks (model prog w) s₁.heap (typeOf (.ref x1)) cls1 := fun A Q E s k q => wpAny_typeOf_ref (k _ _ hx1) (by rw [hc1]; exact q)
  have LIx : PySem.W.Looks (model prog w) s₁.heap (isInstance (.ref x1) (.type "BaseException")) true := LTx.andThen Lx
  have hnt : ∀ {Q' : Bool → Shared → Prop}, Q' false s₁ → wpAny (model prog w) A (isType (.ref a)) Q' E s₁ := by
    intro Q' hq
    simp only [isType, loadHead]
    refine wpAny_bind (wpAny_loadPart ha ?_)
    rw [hd]; exact wpAny_pure hq
  have hntx : ∀ {Q' : Bool → Shared → Prop}, Q' false s₁ → wpAny (model prog w) A (isType (.ref x1)) Q' E s₁ := by
    intro Q' hq
    simp only [isType, loadHead]
    refine wpAny_bind (wpAny_loadPart hx1 ?_)
    rw [hdx]; exact wpAny_pure hq
  have hd3 := Obj.data_mapFields hd (·.setIfInBounds 3 (.ref x1))
  have ha3 := Heap.get?_update_self (Obj.mapFields (·.setIfInBounds 3 (.ref x1))) ha (Obj.isFreed_of_fields hd3)
  obtain ⟨ha4, hd4⟩ := causeFrom_at (c := .ref x1) ha hd
  have s3 : 3 < vs.size := by omega
  have s4 : 4 < (vs.setIfInBounds 3 (Value.ref x1)).size := by rw [set_size]; exact hi
  have s2 : 2 < ((vs.setIfInBounds 3 (Value.ref x1)).setIfInBounds 4 (Value.bool true)).size := by rw [set_size, set_size]; omega
  have h14 : ((vs.setIfInBounds 3 (Value.ref x1)).setIfInBounds 4 (Value.bool true))[1]? = some Value.none := set_other (by decide) (set_other (by decide) h1)
  have hcls4 : ((oe.mapFields (·.setIfInBounds 3 (.ref x1))).mapFields (·.setIfInBounds 4 (.bool true))).cls = cls := by rw [Obj.cls_mapFields, Obj.cls_mapFields]; exact hcls
  have LT4 : PySem.W.Looks (model prog w) (causeFrom s₁.heap a (.ref x1)) (typeOf (.ref a)) cls := fun A Q E s k q => wpAny_typeOf_ref (k _ _ ha4) (by rw [hcls4]; exact q)
  have hnt4 : ∀ {Q' : Bool → Shared → Prop}, Q' false { s₁ with heap := causeFrom s₁.heap a (.ref x1) } → wpAny (model prog w) A (isType (.ref a)) Q' E { s₁ with heap := causeFrom s₁.heap a (.ref x1) } := by
    intro Q' hq
    simp only [isType, loadHead]
    refine wpAny_bind (wpAny_loadPart ha4 ?_)
    rw [hd4]; exact wpAny_pure hq
  have hot4 : HotAt A x1 (causeFrom s₁.heap a (.ref x1)) := by
    obtain ⟨q1, o, vs', q2, q3, q4⟩ := hot
    exact ⟨q1, o, vs', by rw [causeFrom_other (Ne.symm hne)]; exact q2, q3, q4⟩
  -- what stands behind the two stores
  have rest : wpAny (model prog w) A (do
      let b ← isType (.ref a)
      if b = true then do
        let e ← holding [.ref a] (raisedFor (.ref a) (.ref a))
        setFlight e none
        raiseNew e
      else do
        let e ← raisedInstance (.ref a)
        setFlight e none
        raiseNew e : Sem Flow) Q E { s₁ with heap := causeFrom s₁.heap a (.ref x1) } := by
    refine wpAny_bind (hnt4 ?_)
    simp only [Bool.false_eq_true, if_false]
    unfold raisedInstance
    refine wpAny_bind (wpAny_bind (LT4.here (wpAny_bind (L3.here ?_))))
    rw [if_pos (beq_self_eq_true _)]
    refine wpAny_pure ?_
    unfold setFlight
    refine wpAny_bind (wpAny_bind (wpAny_field ha4 hd4 h14 ?_))
    rw [if_neg (by decide)]
    refine wpAny_pure ?_
    exact raiseNew_hot hot4 hne ha4 hd4 s2 hE
  refine wpAny_bind (wpAny_holding (hcs _ (wpAny_bind (wpAny_pure ?_))))
  dsimp only
  refine wpAny_bind (wpAny_holding ?_)
  unfold excFromValue isExcClass
  refine wpAny_bind (wpAny_bind (hnt ?_))
  simp only [Bool.false_eq_true, if_false]
  refine wpAny_pure ?_
  simp only [Bool.false_eq_true, if_false]
  refine wpAny_bind (LI.here ?_)
  simp only [if_true]
  refine wpAny_pure ?_
  have hne0 : ¬ ((Value.ref x1 == Value.none) = true) := by simp
  rw [if_neg hne0]
  have hcause : ∀ {Q' : Value → Shared → Prop}, Q' (.ref x1) s₁ → wpAny (model prog w) A (holding [.ref a] (do
      if ← (do if ← isType (.ref x1) then isSubtype (.ref x1) (.type "BaseException") else pure false) then
        let e ← call (.ref x1)
        if !(← isInstance e (.type "BaseException")) then
          rule "raise.class-gave-no-exception"
          holding [e] do
          raiseError "TypeError" s!"calling {(← pyRepr (.ref x1)).toString} should have returned an instance of BaseException, not {(← pyRepr (← typeOf e)).toString}"
        pure e
      else if ← isInstance (.ref x1) (.type "BaseException") then pure (.ref x1)
      else rule "raise.not-exception"; raiseError "TypeError" "exception causes must derive from BaseException")) Q' E s₁ := by
    intro Q' hq
    refine wpAny_holding ?_
    refine wpAny_bind (wpAny_bind (hntx ?_))
    simp only [Bool.false_eq_true, if_false]
    refine wpAny_pure ?_
    simp only [Bool.false_eq_true, if_false]
    refine wpAny_bind (LIx.here ?_)
    simp only [if_true]
    exact wpAny_pure hq
  first
  | refine wpAny_bind (hcause (wpAny_bind (wpAny_setField ha hd s3 (wpAny_bind (wpAny_setField ha3 hd3 s4 ?_)))))
  | refine wpAny_bind (hcause (wpAny_bind (wpAny_bind (wpAny_setField ha hd s3 (wpAny_bind (wpAny_setField ha3 hd3 s4 ?_))))))
  | refine wpAny_bind (wpAny_bind (hcause (wpAny_bind (wpAny_setField ha hd s3 (wpAny_setField ha3 hd3 s4 ?_)))))
  first
  | exact rest
  | (dsimp only; exact rest)
  | (refine wpAny_pure ?_; exact rest)
  | (simp only [bind_pure_comp] ; exact rest)
/-- raise X(..) from n, where n names what is handled -/
theorem ps_raiseHF {X : Cx} {W : WX} {e : Expr} {t : L2.St → Hp → XK → Prop} {i : Nat} {n : Str} {npos pos : Pos} {p : Addr × Obj} (h1 : L2H.Hot1 X.A p) (hp : p ∈ X.pn) (hr1 : Raises X p.2.cls) (tk : L2.Takes X W) (he : L2H.PMk5 X e t)
    (hN : X.N[i]? = some n) (hk : X.env.kindOf n = some .local) (hdb : (n == ("__debug__" : Str)) = false) :
    PS X (.Raise (some e) (some (.Name n npos)) pos) (fun _ σ H => σ[i]? = some (some (.ref p.1)) ∧ t σ H fun cls d H' => W cls d σ H') := by
  refine ⟨fun pins s σ H D I h => ?_⟩
  obtain ⟨hσ, h⟩ := h
  obtain ⟨hh, v1, e1, c1⟩ := h1
  show wpAny _ _ (do standAt pos; raiseStmt X.env (some (do let v ← eval e X.env; standAt pos; pure v)) (some (do let v ← eval (.Name n npos) X.env; standAt pos; pure v))) _ _ _
  refine wpAny_bind (wpAny_standAt (raise_from_hot (x1 := p.1) (wpAny_bind (wpAny_mono (he pins s σ H _ I h) (fun u s1 hu => wpAny_bind (wpAny_standAt (wpAny_pure ?_))) fun _ _ x => x))))
  obtain ⟨⟨a, oe, vs, sI, H', cls, d, rfl, J, k, hne, ha, hz, hd, h1, na, os, ag, r, q⟩, h5⟩ := hu
  have hi : 4 < vs.size := h5 a oe vs rfl ha hd
  have k4 : ∀ b u, sI.heap.get? b = some u → (causeFrom s1.heap a (.ref p.1)).get? b = some u := fun b u z => by
    have nab : a ≠ b := fun y => by
      rw [← y, hne] at z
      cases z
    rw [causeFrom_other nab]
    exact k b u z
  obtain ⟨r1, _⟩ := r (model X.prog X.w) s1.heap (J.kIn.keeps k)
  obtain ⟨_, r2⟩ := r (model X.prog X.w) (causeFrom s1.heap a (.ref p.1)) (J.kIn.keeps k4)
  obtain ⟨rx, _⟩ := hr1 (model X.prog X.w) s1.heap (J.kIn.keeps k)
  have P1 := (J.pin p (List.mem_append_left _ hp)).1
  have nap : p.1 ≠ a := fun z => by
    rw [z, hne] at P1
    cases P1
  obtain ⟨ha4, hd4⟩ := causeFrom_at (c := .ref p.1) ha hd
  have h12 : (((vs.setIfInBounds 3 (Value.ref p.1)).setIfInBounds 4 (Value.bool true)).setIfInBounds 2 (Value.ref p.1))[1]? = some Value.none := set_other (by decide) (set_other (by decide) (set_other (by decide) h1))
  have hname : ∀ Q' : Value → Shared → Prop, Q' (.ref p.1) s1 → wpAny (model X.prog X.w) X.A (do let v ← eval (.Name n npos) X.env; standAt pos; pure v) Q' X.xe s1 := fun Q' q' => by
    obtain ⟨m, hn, hl⟩ := J.loc
    obtain ⟨u, ru, l⟩ := hl i n _ hN hσ (.inl hk)
    obtain rfl : u = .ref p.1 := ru
    rcases l with ⟨_, hm⟩ | ⟨hk2, _⟩
    · exact wpAny_bind (wpAny_Name (wpAny_loadName_local J.ok.kind hk (hn.keeps k) hm (wpAny_bind (wpAny_standAt (wpAny_pure q')))) hdb)
    · rcases hk2 with hk2 | hk2 <;> (rw [hk] at hk2; cases hk2)
  refine ⟨a, oe, vs, cls, p.2, v1, _, rfl, ha, hz.1, hd, h1, hi, nap, ⟨hh, p.2, v1, k _ _ P1, e1, c1⟩, k _ _ P1, rfl, e1, rx, hname, r1, r2, tk _ _ (XE.new J (fun b u z => ?_) hne (Heap.get?_update_self _ ha4 (Obj.isFreed_of_fields (Obj.data_mapFields hd4 _)))
    ⟨by rw [Obj.cls_mapFields, Obj.cls_mapFields, Obj.cls_mapFields]; exact hz.1, by rw [HandSPX.dict_mapFields, HandSPX.dict_mapFields, HandSPX.dict_mapFields]; exact hz.2.1⟩ (Obj.data_mapFields hd4 _) h12 na os ag q)⟩
  have nab : a ≠ b := fun y => by
    rw [← y, hne] at z
    cases z
  show ((causeFrom s1.heap a (.ref p.1)).update a (Obj.mapFields (·.setIfInBounds 2 (.ref p.1)))).get? b = some u
  rw [Heap.get?_update_other _ _ nab]
  exact k4 b u z
section
variable {X : Cx} {pins : List (Addr × Obj)} {σ : L2.St} {H : Hp} {s : Shared}
/-- the name of an except clause is gone -/
theorem gone_inv {i : Nat} {n : Str} {m : Str → Option Value} {h' : Heap} {v : Option Value} {tk : Nat} (I : L2.Inv X pins σ H s) (hN : X.N.Nodup) (hi : X.N[i]? = some n)
    (hlk : ∀ (j : Nat) (x : Str) (v : V), X.N[j]? = some x → σ[j]? = some (some v) → Vis X.env.scope x → ∃ u, RelV v u ∧ Look X.env s.heap m x u)
    (hn' : h'.Ns X.env.locals (fun x => if x = n then v else m x)) (hs : ∀ b, b ≠ X.env.locals → h'.get? b = s.heap.get? b) : L2.Inv X pins (σ.set i none) H { s with heap := h', toks := tk } := by
  have neL : ∀ b o, X.s_0.heap.get? b = some o → b ≠ X.env.locals := fun b o e => Nat.ne_of_lt (Nat.lt_of_lt_of_le (Heap.lt_size e) I.ok.above)
  have cel : ∀ {c : Addr} {w : Option Value}, s.heap.IsCell c w → c ≠ X.env.locals → h'.IsCell c w := fun z ne => by
    obtain ⟨o, e, d⟩ := z
    exact ⟨o, (hs _ ne).trans e, d⟩
  refine ⟨I.ok, I.os, I.bare, ⟨fun b o e n hb hx => ?_, fun b o e n hb hx => ?_, I.base.free, fun b o e hx => ?_, I.base.tups, I.base.frzs, I.base.tbls⟩, ⟨_, hn', fun j y v' e1 e2 e3 => ?_⟩, fun y c e => ?_, I.free, I.freeC, fun p hp => ?_, fun b ob e => ?_, by simpa using I.len⟩
  · exact (hs b (neL b o e)).trans (I.base.keep b o e n hb hx)
  · obtain ⟨sl, e1⟩ := I.base.slot b o e n hb hx
    exact ⟨sl, (hs b (neL b o e)).trans e1⟩
  · obtain ⟨o', e1⟩ := I.base.there b o e hx
    exact ⟨o', (hs b (neL b o e)).trans e1⟩
  · by_cases hj : j = i
    · subst hj
      by_cases hlt : j < σ.length
      · rw [List.getElem?_set_self hlt] at e2; cases e2
      · rw [List.getElem?_eq_none (by simpa using hlt)] at e2; cases e2
    · rw [List.getElem?_set_ne (Ne.symm hj)] at e2
      obtain ⟨u', r', q⟩ := hlk j y v' e1 e2 e3
      refine ⟨u', r', ?_⟩
      rcases q with ⟨k, e⟩ | ⟨k, c, e, z⟩
      · have ny : y ≠ n := fun e => hj (nodup_ix hN e1 (e ▸ hi))
        exact .inl ⟨k, (if_neg ny).trans e⟩
      · exact .inr ⟨k, c, e, cel z (I.cne y c e)⟩
  · obtain ⟨w', z⟩ := I.cell y c e
    exact ⟨w', cel z (I.cne y c e)⟩
  · obtain ⟨e, n, ne, nf, d⟩ := I.pin p hp
    exact ⟨(hs p.1 ne).trans e, n, ne, nf, d⟩
  · refine (I.hok b ob e).stay (fun c w' hc q => (hs c ?_).trans q) (fun _ q => q) fun _ _ q => q
    intro z
    subst z
    rcases hc with hc | hc
    · rw [← hc, I.free] at e; cases e
    · rw [I.free] at hc; cases hc
/-- what an exception of the suite meets: it is noted, the name goes, it flies on -/
def fromE (X : Cx) (a : Addr) (n : Str) (pos' : Pos) : Value → Shared → Prop := fun x s₃ =>
  wpAny (model X.prog X.w) (X.A.mark (some (.ref a))) (noteFrame x X.env) (fun _ s₃' =>
    wpAny (model X.prog X.w) (X.A.mark (some (.ref a))) (do bindName X.env n .none; unbindBehindTheSuite X.env n pos')
      (fun _ s₄ => wpAny (model X.prog X.w) (X.A.mark (some (.ref a))) (passOn "try.except-as" x X.env : Sem Flow) (fun _ _ => False) (notedBy (model X.prog X.w) (X.A.mark (some (.ref a))) X.env (cameBackBy (model X.prog X.w) X.A X.env X.xe)) s₄)
      (fun y s₄ => wpAny (model X.prog X.w) (X.A.mark (some (.ref a))) (setFlight x none) (fun _ s₅ => notedBy (model X.prog X.w) (X.A.mark (some (.ref a))) X.env (cameBackBy (model X.prog X.w) X.A X.env X.xe) y s₅) (notedBy (model X.prog X.w) (X.A.mark (some (.ref a))) X.env (cameBackBy (model X.prog X.w) X.A X.env X.xe)) s₄) s₃')
    (notedBy (model X.prog X.w) (X.A.mark (some (.ref a))) X.env (cameBackBy (model X.prog X.w) X.A X.env X.xe)) s₃
/-- the context of an except suite that names what it handles and raises -/
abbrev suiteF (X : Cx) (a : Addr) (n : Str) (pos' : Pos) (pn : List (Addr × Obj)) : Cx := (X.suite a pn).wish (fromE X a n pos')
theorem takes_from {i : Nat} {n : Str} {a : Addr} {q : Addr × Obj} {pos' : Pos} {Wout : WX} (ok : X.Ok) (hs : X.stack = X.env :: X.outer) (hf : X.env.frame = some X.env.locals) (hN : X.N.Nodup) (hi : X.N[i]? = some n) (hln : X.env.kindOf n = some .local) (tk : L2.Takes X Wout)
    (hpa : ∀ hd : Option Value, PassesOwnAt (model X.prog X.w) (X.A.mark hd) X.A X.env X.xe) : L2.Takes (suiteF X a n pos' (q :: (X.pn ++ pins))) (fun cls d σ H => Wout cls d (σ.set i none) H) := by
  intro u s' x2
  obtain ⟨a2, B2, sI2, pn2, σ2, H2, cls2, d2, rfl, I2, nb2, up2, sky2, na2, os2, ag2, w2⟩ := x2
  have J : L2.Inv X pins σ2 H2 sI2 := L2.Inv.unsuite (X := X) (a := a) (q := q) (pn' := pn2) (L2.Inv.unwish I2) ok
  have hfr : (X.A.mark (some (.ref a))).frames = some (X.env :: X.outer) := by
    show X.A.frames = _
    rw [ok.frames, hs]
  have sky2' : L2.Sky B2 (X.env :: X.outer) a2 (Zc cls2 d2) X.env.locals s'.heap := by rw [← hs]; exact sky2
  have hcls : (X.env.scope.kind == .class || (X.env.scope.kind == .module && X.env.locals != X.env.globals)) = false := by rw [ok.kind]; rfl
  have inF : X.env.locals ∈ frs X.stack := by rw [hs]; exact List.mem_filterMap.mpr ⟨X.env, List.mem_cons_self, hf⟩
  show wpAny _ (X.A.mark (some (.ref a))) (noteFrame (.ref a2) X.env) _ _ _
  have fin : ∀ h3, HandSPX.HeldZ B2 (X.env :: X.outer) a2 (Zc cls2 d2) X.env.locals h3 → s'.heap.UpToSlots h3 →
      wpAny (model X.prog X.w) (X.A.mark (some (.ref a))) (do bindName X.env n .none; unbindBehindTheSuite X.env n pos')
      (fun _ s₄ => wpAny (model X.prog X.w) (X.A.mark (some (.ref a))) (passOn "try.except-as" (.ref a2) X.env : Sem Flow) (fun _ _ => False) (notedBy (model X.prog X.w) (X.A.mark (some (.ref a))) X.env (cameBackBy (model X.prog X.w) X.A X.env X.xe)) s₄)
      (fun y s₄ => wpAny (model X.prog X.w) (X.A.mark (some (.ref a))) (setFlight (.ref a2) none) (fun _ s₅ => notedBy (model X.prog X.w) (X.A.mark (some (.ref a))) X.env (cameBackBy (model X.prog X.w) X.A X.env X.xe) y s₅) (notedBy (model X.prog X.w) (X.A.mark (some (.ref a))) X.env (cameBackBy (model X.prog X.w) X.A X.env X.xe)) s₄) { s' with heap := h3 } := by
    intro h3 hh up3
    obtain ⟨k1, k2, k3, k4⟩ := id hh
    obtain ⟨Gp, g1, g2⟩ := restrict h3 fun b => (B2.get? b).isSome || decide (b ∈ frs X.stack)
    have gB : B2.StaysIn Gp := fun b o e => by
      rw [g1 b (by simp [e])]
      exact k1 b o e
    have gF : ∀ b, b ∈ frs X.stack → Gp.get? b = h3.get? b := fun b hb => g1 b (by simp [hb])
    have g3 : ∀ b o, Gp.get? b = some o → h3.get? b = some o := fun b o e => by
      cases z : ((B2.get? b).isSome || decide (b ∈ frs X.stack)) with
      | false => rw [g2 b z] at e; cases e
      | true => rw [g1 b z] at e; exact e
    have upG : sI2.heap.UpToSlots Gp := fun b o e nf => by
      by_cases hb : b ∈ frs X.stack
      · obtain ⟨sl, z⟩ := (up2.trans up3) b o e nf
        exact ⟨sl, by rw [gF b hb]; exact z⟩
      · exact ⟨o.slots, gB b o (nb2 b o e hb)⟩
    have JG : L2.Inv X pins σ2 H2 { s' with heap := Gp } := J.landed (s' := { s' with heap := Gp }) nb2 gB upG os2 ag2
    obtain ⟨m, hn, hlk⟩ := id JG.loc
    obtain ⟨oL, es, ep, hoL, hdL, _⟩ := id hn
    have hn3 : h3.Ns X.env.locals m := hn.keeps g3
    refine wpAny_nameGoes_keeps hln hn3 hcls fun h4 v hn4 hs4 => ?_
    have BL : B2.get? X.env.locals = none := (k3.mem (by rw [← hs]; exact inF)).1
    obtain ⟨oe, vs, T, oT, ts', he, hz, hd, h1, hnT, hTe, hT, hdT, h33⟩ := id k4
    have hoL3 : h3.get? X.env.locals = some oL := g3 _ _ hoL
    have naL : a2 ≠ X.env.locals := fun z => by
      rw [z, hoL3] at he; cases he
      rw [hd] at hdL; cases hdL
    have nTL : T ≠ X.env.locals := fun z => by
      rw [z, hoL3] at hT; cases hT
      rw [hdT] at hdL; cases hdL
    have hh4 : HandSPX.HeldZ B2 (X.env :: X.outer) a2 (Zc cls2 d2) X.env.locals h4 := by
      refine ⟨fun b o e => ?_, k2, ?_, oe, vs, T, oT, ts', (hs4.2 _ naL).trans he, hz, hd, h1, hnT, hTe, (hs4.2 _ nTL).trans hT, hdT, h33⟩
      · have : b ≠ X.env.locals := fun z => by rw [z, BL] at e; cases e
        exact (hs4.2 b this).trans (k1 b o e)
      · have key : ∀ {l : List Env}, h3.FunFrames B2 l → h4.FunFrames B2 l := by
          intro l
          induction l with
          | nil => exact fun _ => trivial
          | cons env rest ih =>
            rintro ⟨hk, ⟨L, o, hf', hn', ho, hd'⟩, hr⟩
            refine ⟨hk, ?_, ih hr⟩
            by_cases hL : L = X.env.locals
            · obtain ⟨o4, es4, ep4, ho4, hd4, _⟩ := id hn4
              exact ⟨L, o4, hf', hn', by rw [hL]; exact ho4, fun vs z => by rw [hd4] at z; cases z⟩
            · exact ⟨L, o, hf', hn', (hs4.2 L hL).trans ho, hd'⟩
        exact key k3
    unfold PySem.passOn
    refine wpAny_bind (wpAny_field ((hs4.2 _ naL).trans he) hd h1 ?_)
    rw [if_neg (show ¬ ((Value.ref T == Value.none) = true) from by simp)]
    have fin2 : wpAny (model X.prog X.w) (X.A.mark (some (.ref a))) (setFlight (.ref a2) X.env.frame) (fun _ s5 => wpAny (model X.prog X.w) (X.A.mark (some (.ref a))) (throw (.ref a2) : Sem Flow) (fun _ _ => False) (notedBy (model X.prog X.w) (X.A.mark (some (.ref a))) X.env (cameBackBy (model X.prog X.w) X.A X.env X.xe)) s5)
        (notedBy (model X.prog X.w) (X.A.mark (some (.ref a))) X.env (cameBackBy (model X.prog X.w) X.A X.env X.xe)) { s' with heap := h4, toks := s'.toks + 1 } := by
      rw [hf]
      refine HandSPX.setFlight_onZ (s := { s' with heap := h4, toks := s'.toks + 1 }) hh4 fun h5 hh5 up5 => wpAny_throw (hpa (some (.ref a)) _ _ (tk _ _ ?_))
      obtain ⟨G, q1, q2⟩ := restrict h4 fun b => (B2.get? b).isSome || decide (b ∈ frs X.stack)
      have q3 : ∀ b o, G.get? b = some o → h4.get? b = some o := fun b o e => by
        cases z : ((B2.get? b).isSome || decide (b ∈ frs X.stack)) with
        | false => rw [q2 b z] at e; cases e
        | true => rw [q1 b z] at e; exact e
      have nG : G.Ns X.env.locals (fun x => if x = n then v else m x) := by
        obtain ⟨o, es, ep, e, r⟩ := hn4
        exact ⟨o, es, ep, by rw [q1 _ (by simp [inF])]; exact e, r⟩
      have hsG : ∀ b, b ≠ X.env.locals → G.get? b = Gp.get? b := fun b hb => by
        cases z : ((B2.get? b).isSome || decide (b ∈ frs X.stack)) with
        | false => rw [q2 b z, g2 b z]
        | true => rw [q1 b z, g1 b z]; exact hs4.2 b hb
      have JN := gone_inv (h' := G) (tk := s'.toks + 1) JG hN hi hlk nG hsG
      refine ⟨a2, B2, { s' with heap := G, toks := s'.toks + 1 }, pins, σ2.set i none, H2, cls2, d2, rfl, JN, fun b o e hb => ?_, fun b o e nf => up5 b o (q3 b o e) nf, .inr (.inr (by rw [hs]; exact hh5)), na2, rfl, ag2, w2⟩
      cases z : ((B2.get? b).isSome || decide (b ∈ frs X.stack)) with
      | false => rw [q2 b z] at e; cases e
      | true =>
        have z' : (B2.get? b).isSome = true := by simpa [hb] using z
        obtain ⟨o', e'⟩ := Option.isSome_iff_exists.mp z'
        have := hh4.1 b o' e'
        rw [q3 b o e] at this
        cases this; exact e'
    first
      | exact wpAny_bind (wpAny_pure (wpAny_bind fin2))
      | exact wpAny_bind fin2
  rcases sky2' with ⟨hB, hn, hl, oe, vs, he, hz, hd, h1⟩ | fl | hh
  · exact HandSPX.look_newZ Zc.steady hfr hl hf he hB hn hd h1 hz fin
  · exact HandSPX.looks_onZ Zc.steady hfr hf fl fin
  · exact HandSPX.againZ hf hh.2.2.2 (fin _ hh (Heap.UpToSlots.refl _))
end
section
variable {X : Cx} {x n : Str} {c : Value} {i : Nat} {body suite : List Stmt} {b₀ : Stmt} {np pos pos' : Pos} {tb : WX → TS} {ts : Addr → Obj → Value → Option Addr → TS} {Wout : WX}
/-- what the clause wishes -/
def wFrom (K : PySem.W.Frag) (c : Value) (i : Nat) (ts : Addr → Obj → Value → Option Addr → TS) (Wout : WX) (D : Ends) : WX := fun cls d σ H =>
  ∃ b, PySem.W.exmOne K cls c = some b ∧ (b = true → ∀ a oe, H a = none → L2N.Zn cls d oe → (∃ vs, oe.data = .fields vs) → ts a oe cls d { nx := fun σ' H' => D.nx (σ'.set i none) H', rt := D.rt, bk := fun σ' H' => D.bk (σ'.set i none) H', ct := fun σ' H' => D.ct (σ'.set i none) H' } (σ.set i (some (.ref a))) H) ∧
    (b = false → Wout cls d σ H)
theorem ps_try_from (hs : X.stack = X.env :: X.outer) (hf : X.env.frame = some X.env.locals) (hN : X.N.Nodup) (hi : X.N[i]? = some n) (hln : X.env.kindOf n = some .local) (hc : Names X x c) (tk : L2.Takes X Wout)
    (hpa : ∀ hd : Option Value, PassesOwnAt (model X.prog X.w) (X.A.mark hd) X.A X.env X.xe)
    (hb : ∀ (W : WX) (pn : List (Addr × Obj)) (xe : Value → Shared → Prop), L2N.Takes (X.tr pn xe) W → PassesOwn (model X.prog X.w) X.A X.env xe → PSs (X.tr pn xe) body (tb W))
    (hsu : ∀ (a : Addr) (oe : Obj) (cls : Value) (d : Option Addr) (pn : List (Addr × Obj)), L2N.Zn cls d oe → (∃ vs, oe.data = .fields vs) → L2.Takes (suiteF X a n pos' ((a, oe) :: pn)) (fun cls d σ H => Wout cls d (σ.set i none) H) →
      L2H.Hot1 (suiteF X a n pos' ((a, oe) :: pn)).A (a, oe) → PSs (suiteF X a n pos' ((a, oe) :: pn)) (b₀ :: suite) (ts a oe cls d)) :
    PS X (.Try body [.ExceptHandler (some (.Name x np)) (some n) (b₀ :: suite) pos'] [] [] pos) (fun D σ H => tb (wFrom X.K c i ts Wout D) D σ H) := by
  refine ⟨fun pins s σ H D I h => ?_⟩
  have ok := I.ok
  have hfr : X.A.frames = some (X.env :: X.outer) := by rw [ok.frames, hs]
  have hloc : Loc X.env.scope n := .inl hln
  refine wpAny_Try_except ?_
  refine wpAny_mono ((hb (wFrom X.K c i ts Wout D) (X.pn ++ pins) (fun e s₁ => wpAny (model X.prog X.w) X.A (noteFrame e X.env) (fun _ s₂ => wpAny (model X.prog X.w) X.A (setFlight e none) (fun _ s₃ =>
    wpAny (model X.prog X.w) X.A (handleBy e X.env [.ExceptHandler (some (.Name x np)) (some n) (b₀ :: suite) pos']) (SP X pins D) X.xe s₃) X.xe s₂) X.xe s₁) (fun u s' xx => ?_) PassesOwn.looking).run [] s σ H D (I.toTry _) h) (fun f s1 hsp => ?_) (fun e s1 he => he)
  · -- the catch
    obtain ⟨a, B, sI, pins', σ', H', cls, d, rfl, J', nb, up, sky, na, os, ag, b, hb1, hyes, hno⟩ := xx
    have J : L2.Inv X pins σ' H' sI := J'.ofTry ok
    have sky' : Sky B (X.env :: X.outer) a (L2N.Zn cls d) X.env.locals s'.heap := by rw [← hs]; exact sky
    show wpAny (model X.prog X.w) X.A (noteFrame (.ref a) X.env) _ _ _
    refine L2N.Sky.land L2N.Zn.steady hfr hf sky' fun h3 fl3 up3 => ?_
    have J3 : L2.Inv X pins σ' H' { s' with heap := h3 } := J.landed nb fl3.1 (up.trans up3) os ag
    obtain ⟨oe3, vs3, he3, hz3, hd3⟩ := fl3.there
    have notFr : ∀ {h : Heap} {o : Obj} {vs : Array Value}, h.FunFrames B (X.env :: X.outer) → h.get? a = some o → o.data = .fields vs → a ∉ frs (X.env :: X.outer) := fun {h o vs} ff e dd hm => by
      obtain ⟨_, o', e', hnf⟩ := ff.mem hm
      rw [e] at e'; cases e'
      exact hnf _ dd
    have nfr := notFr fl3.2.2.1 he3 hd3
    have nL : a ≠ X.env.locals := fun z => nfr (List.mem_filterMap.mpr ⟨X.env, List.mem_cons_self, by rw [hf, z]⟩)
    have nF : a ∉ X.fs := fun hm => by
      obtain ⟨e, he, q⟩ := List.mem_filterMap.mp hm
      exact nfr (List.mem_filterMap.mpr ⟨e, List.mem_cons_of_mem _ he, q⟩)
    have S3 := J3.suite he3 hd3 na nL nF
    refine wpAny_handleBy_cons (codeAny_handlers_test ?_) (by intro q; cases q)
    have LT : PySem.W.Looks (model X.prog X.w) h3 (typeOf (.ref a)) cls := fun A Q E s k q => wpAny_typeOf_ref (k _ _ he3) (by rw [hz3.1]; exact q)
    have LM := PySem.W.exm_one (M := model X.prog X.w) (J3.kIn) LT hb1
    have test : ∀ {Q : Value → Shared → Prop} {E : Value → Shared → Prop}, Q c { s' with heap := h3 } → wpAny (model X.prog X.w) (X.A.mark (some (.ref a))) (eval (.Name x np) X.env) Q E { s' with heap := h3 } := fun {Q E} q => by
      obtain ⟨hg, hdbg, hm | ⟨hm, hv, hnn⟩⟩ := hc
      · exact ld_glob (X := X.suite a ((a, oe3) :: (X.pn ++ pins))) S3 hg hm q hdbg
      · exact ld_blt (X := X.suite a ((a, oe3) :: (X.pn ++ pins))) S3 hg hm hv q hnn hdbg
    refine test (LM.here ?_)
    cases b with
    | true =>
      refine codeAny_handlers_suite_as ?_
      refine HandSPX.lands_againZ fl3 fun h4 fl4 up4 => ?_
      have J4 : L2.Inv X pins σ' H' { s' with heap := h4 } := J.landed nb fl4.1 ((up.trans up3).trans up4) os ag
      obtain ⟨oe4, vs4, he4, hz4, hd4⟩ := fl4.there
      have S4 := J4.suite he4 hd4 na nL nF
      refine store_ok (X := X.suite a ((a, oe4) :: (X.pn ++ pins))) (v := .ref a) S4 hN hi hloc rfl (fun s5 S5 => ?_) (.inr hln)
      have hot : L2H.Hot1 (suiteF X a n pos' ((a, oe4) :: (X.pn ++ pins))).A (a, oe4) := ⟨rfl, vs4, hd4, hz4.2.2 vs4 hd4⟩
      refine wpAny_mono ((hsu a oe4 cls d (X.pn ++ pins) hz4 ⟨_, hd4⟩ (takes_from ok hs hf hN hi hln tk hpa) hot).run [] s5 _ H' _ (L2.Inv.wish S5 _) (hyes rfl a oe4 na hz4 ⟨_, hd4⟩)) (fun f s6 hsp => ?_) (fun x6 s6 z => z)
      have end_ : ∀ {σ6 : L2.St} {H6 : Hp} {Q : Shared → Prop}, L2.Inv (suiteF X a n pos' ((a, oe4) :: (X.pn ++ pins))) [] σ6 H6 s6 → (∀ s7, L2.Inv X pins (σ6.set i none) H6 s7 → Q s7) →
          wpAny (model X.prog X.w) X.A (do bindName X.env n .none; unbindBehindTheSuite X.env n pos') (fun _ s7 => Q s7) X.xe s6 := fun {σ6 H6 Q} S6 hq => gone_ok ((L2.Inv.unwish S6).unsuite ok) hN hi hln hq
      cases f with
      | next =>
        obtain ⟨σ6, H6, S6, q6⟩ := hsp
        exact end_ S6 fun s7 J7 => ⟨_, _, J7, q6⟩
      | brk =>
        obtain ⟨σ6, H6, S6, q6⟩ := hsp
        exact end_ S6 fun s7 J7 => ⟨_, _, J7, q6⟩
      | cont =>
        obtain ⟨σ6, H6, S6, q6⟩ := hsp
        exact end_ S6 fun s7 J7 => ⟨_, _, J7, q6⟩
      | ret u =>
        obtain ⟨v6, σ6, H6, S6, r6, q6⟩ := hsp
        exact end_ S6 fun s7 J7 => ⟨_, _, _, J7, r6, q6⟩
    | false =>
      show wpAny _ X.A (handleBy (.ref a) X.env []) _ _ _
      refine wpAny_handleBy_nil ?_
      obtain ⟨k1, k2, k3, oe, vs, T, oT, ts', he, hz, hd, h1, hr⟩ := id fl3
      unfold PySem.passOn
      refine wpAny_bind (wpAny_field he hd h1 ?_)
      rw [if_neg (show ¬ ((Value.ref T == Value.none) = true) from by simp)]
      have fin : wpAny (model X.prog X.w) X.A (setFlight (.ref a) X.env.frame) (fun _ s4 => wpAny (model X.prog X.w) X.A (throw (.ref a) : Sem Flow) (SP X pins D) X.xe s4) X.xe { s' with heap := h3 } := by
        rw [hf]
        refine HandSPX.setFlight_upZ (L2H.flyingZ_imp (fun o z => z.zc) fl3) fun h4 hh4 up4 => wpAny_throw (tk _ _ ?_)
        exact ⟨a, B, sI, pins, σ', H', cls, d, rfl, J, nb, (up.trans up3).trans up4, .inr (.inr (by rw [hs]; exact hh4)), na, os, ag, hno rfl⟩
      first
        | exact wpAny_bind (wpAny_pure (wpAny_bind fin))
        | exact wpAny_bind fin
  · cases f with
    | next =>
      obtain ⟨σ', H', J', q⟩ := hsp
      exact wpAny_execs_nil ⟨σ', H', J'.ofTry ok, q⟩
    | brk =>
      obtain ⟨σ', H', J', q⟩ := hsp
      exact ⟨σ', H', J'.ofTry ok, q⟩
    | cont =>
      obtain ⟨σ', H', J', q⟩ := hsp
      exact ⟨σ', H', J'.ofTry ok, q⟩
    | ret u =>
      obtain ⟨v, σ', H', J', r, q⟩ := hsp
      exact ⟨v, σ', H', J'.ofTry ok, r, q⟩
end
end L3

namespace L3
open PySem PySem.Spec PyProof.Rows L2 HotX
/-! ### exceptions without a context, in the D-layer -/
theorem skyZ_imp {B h : Heap} {l : List Env} {a L : Addr} {Z Z' : Obj → Prop} (z : ∀ o, Z o → Z' o) (x : L2.Sky B l a Z L h) : L2.Sky B l a Z' L h := by
  rcases x with ⟨hB, hn, hl, oe, vs, he, hz, hd, h1⟩ | fl | hh
  · exact .inl ⟨hB, hn, hl, oe, vs, he, z _ hz, hd, h1⟩
  · exact .inr (.inl (L2H.flyingZ_imp z fl))
  · exact .inr (.inr ⟨hh.1, hh.2.1, hh.2.2.1, L2H.tracedZ_imp z hh.2.2.2⟩)
theorem xeN_xe {X : Cx} {W : WX} {u : Value} {s' : Shared} (x : L2N.XE X W u s') : L2.XE X W u s' := by
  obtain ⟨a, B, sI, pins, σ, H, cls, d, e, I, nb, up, sky, na, os, ag, w⟩ := x
  exact ⟨a, B, sI, pins, σ, H, cls, d, e, I, nb, up, skyZ_imp (fun o z => z.zc) sky, na, os, ag, w⟩
theorem takesN_of {X : Cx} {W : WX} (tk : L2.Takes X W) : L2N.Takes X W := fun u s' x => tk u s' (xeN_xe x)
section
variable {X : Cx} {B : Bs} {RX : RXe}
theorem rzNN (tk : L2N.Takes X (WL X.K B RX)) : Rz X B (L2N.CX X.prog X.w) RX := L2N.passAt tk
theorem rzXN (tk : L2.Takes X (WL X.K B RX)) : Rz X B (L2N.CX X.prog X.w) RX := L2N.passAt (takesN_of tk)
theorem takesN0 : L2N.Takes X (fun _ _ _ _ => False) := fun _ _ x => by
  obtain ⟨_, _, _, _, _, _, _, _, _, _, _, _, _, _, _, _, z⟩ := x
  exact z.elim
theorem rz0N : Rz X B (L2N.CX X.prog X.w) RXn := fun σ _ _ _ _ _ _ h => by
  obtain ⟨a, B', H', cls, d, _, _, _, _, _, _, _, q⟩ := h
  obtain ⟨_, _, _, _, _, _, _, _, _, _, _, z⟩ := q
  exact z.elim
end
section
variable {P : Program} {w : World} {K : PySem.W.Frag} {mg : Str → Option Value} {base : Heap}
theorem Fun.okXN {x qual : Str} {st : Stmt} {f : Addr} {fd : FuncData} {N ps : List Str} {k : Nat} {sp : Sp} (F : Fun K x qual st f fd) (S : FnScope N ps (defScope st)) (len : ∀ vs H Q E, sp vs H Q E → vs.length = ps.length)
    (hbody : ∀ (cdv : Value) (A : Around) (outer : List Env) (s : Shared) (H : Hp) (vs : List V) (Q : VK) (E : XK), Room k (A.deeper (envOfC qual (defScope st) s.heap.objs.size f cdv)) → sp vs H Q E →
      ∃ t, PSs (cxOf (L2N.CX P w) P w K mg base N qual (defScope st) f cdv A outer s H E) (defBody st) t ∧ t { nx := fun _ H' => Q .non H', rt := Q } (L2.start N vs) H) : FnOk P w K mg base (L2N.CX P w) (k + 1) f fd ps sp := by
  obtain ⟨oc, od, kV, doc, pm, an, cdv, ct, osl, rfl, lk, hcd⟩ := F.ex
  exact fn_of lk hcd S len fun A outer s H vs Q E hr hsp => hbody cdv A outer s H vs Q E hr hsp
theorem dfnXN {x qual : Str} {st : Stmt} {f : Addr} {fd : FuncData} {N ps : List Str} {k : Nat} {sp : DSp} (F : Fun K x qual st f fd) (S : FnScope N ps (defScope st)) (len : ∀ ds M R RX, sp ds M R RX → ds.length = ps.length)
    (body : ∀ (B : Bs) (cdv : Value) (A : Around) (outer : List Env) (s : Shared) (H : Hp) (E : XK), Room k (A.deeper (envOfC qual (defScope st) s.heap.objs.size f cdv)) →
      ∃ wb : RXe → WS, (∀ RX : RXe, L2N.Takes (cxOf (L2N.CX P w) P w K mg base N qual (defScope st) f cdv A outer s H E) (WL K B RX) → DSs B (cxOf (L2N.CX P w) P w K mg base N qual (defScope st) f cdv A outer s H E) (defBody st) (wb RX)) ∧
        ∀ ds M R RX, sp ds M R RX → M.all (cellOk M.length) = true → noCels M.length ds = true → wb (fun nm fs _ M' => rxF M.length RX nm fs M') (fnEnds M.length R) (startE N.length ds) M) :
    FnOk P w K mg base (L2N.CX P w) (k + 1) f fd ps (toSp K sp) := by
  refine Fun.okXN F S (fun vs H Q E h => ?_) (fun cdv A outer s H vs Q E hr h => ?_)
  · obtain ⟨P, al, M, ds, R, RX, _, r, hs, _⟩ := h
    rw [← r.length]; exact len _ _ _ _ hs
  · obtain ⟨Pp, al, M, ds, R, RX, r0, r, hs, L, LX⟩ := h
    obtain ⟨wb, hb, hw⟩ := body (Pp, al, H) cdv A outer s H E hr
    have el := r0.len
    have fin : ∀ d M' v H' P' al', Ext Pp al H P' al' H' → RS0 K (Pp, al, H) P' al' M' H' → Rep K P' al' d v → retF M.length R d M' → Q v H' := fun d M' v H' P' al' e r' rd q => by
      cases q with
      | keep q => exact L d M' v H' P' al' e r' rd q
      | less q1 q2 q3 =>
        rw [← el] at q1 q2 q3
        refine L d _ v H' P' al ⟨e.pp, List.prefix_refl _, e.fr, fun b m n => absurd m n, e.pn⟩ (r'.drop fun i m hi hm => ?_) (rd.cut e.pre q1) q3
        exact List.all_eq_true.mp q2 m (List.mem_of_getElem? (by rw [List.getElem?_take_of_lt hi]; exact hm))
    have finX : ∀ C nm fs M' H' P' al' dd, Ext Pp al H P' al' H' → RS0 K (Pp, al, H) P' al' M' H' → ClsAt K nm C → XdOk K P' al' H' fs dd → rxF M.length RX nm fs M' → E (.ref C) dd H' := fun C nm fs M' H' P' al' dd e r' c xd q => by
      cases q with
      | keep q => exact LX C nm fs M' H' P' al' dd e r' c xd q
      | less q1 q2 q3 =>
        rw [← el] at q1 q2 q3
        refine LX C nm fs _ H' P' al dd ⟨e.pp, List.prefix_refl _, e.fr, fun b m n => absurd m n, e.pn⟩ (r'.drop fun i m hi hm => ?_) c (xd.cut e.pre q1) q3
        exact List.all_eq_true.mp q2 m (List.mem_of_getElem? (by rw [List.getElem?_take_of_lt hi]; exact hm))
    obtain ⟨s1, s2⟩ := start_slots (N := N) r
    refine ⟨_, hb _ ((L2N.takes_of rfl rfl rfl rfl).imp fun c d σ H' h => ?_), Pp, al, M, _, _, ⟨r0, s1, s2⟩, hw ds M R RX hs r0.inside (by rw [← el]; exact r.inside), ⟨fun env' M' σ' H' P' al' e rs q => fin _ _ _ _ _ _ e rs.toRS0 .non q, fun d M' v H' P' al' e rs rd q => fin _ _ _ _ _ _ e rs rd q, fun _ _ _ _ _ _ _ _ z => z.elim, fun _ _ _ _ _ _ _ _ z => z.elim⟩⟩
    obtain ⟨C, nm, fs, env, P', al', M', rfl, c, rs, xd, q⟩ := h
    exact finX C nm fs M' H' P' al' d rs.base rs.toRS0 c xd q
end
/-! ### raising where what is raised has no context -/
section
variable {X : Cx} {B : Bs} {C fI : Addr} {k : Nat} {fd : FuncData} {n x : Str} {p pos pos2 : Pos} {e : Expr} {es : List Expr} {was : WA} {ps ns : List Str} {RX : RXe} {ta : TA} {CX : CXT} {sp : Sp} {ds : List Value} {dvs : List V}
theorem pmk_oexN (T : OexC X.K C) (iC : PySem.W.findIn X.K (.ref C) "__init__" = some (some (.ref fI))) (tI : PySem.W.typeIn X.K (.ref fI) = some (.type "function"))
    (F1 : FnOk X.prog X.w X.K X.mg X.base CX k fI fd ps sp) (hr : Room (k + 1) X.A) (hb : Binds X.K fd ps ds) (hd : Vals dvs ds) (hx : Passes CX X (fun _ _ _ => False)) (hg : Gl X x) (hm : X.mg x = some (.ref C)) (ha : PA X (e :: es) ta)
    (hdb : (x == ("__debug__" : Str)) = false := by decide) (he : starEach (e :: es) X.env = (false, eval e X.env) :: starEach es X.env := by rfl) (hpl : (backTo pos (starEach es X.env)).any (·.1) = false := by rfl) :
    L2N.PMk X (.Call (.Name x p) (e :: es) [] pos) (tMkO C sp dvs ta) := by
  intro pins s σ H Q I h
  obtain ⟨nm, q, N, bs, bm, sn, sub, ab, col, dd, k0, k1, k2, k3, k5, hC, hbm⟩ := T.cls
  refine wpAny_Call_Name_kw (ld_glob I hg hm ?_ hdb)
  refine PySem.W.callWith_K (h₀ := X.base) I.ok.mod.kin T.kC (thn (ha.run pos pins s σ H _ I h) fun us s1 ⟨vs, H1, I1, r1, hz, q1⟩ => ⟨I1.kIn, ?_⟩) he hpl
  show wpAny _ _ (call (.ref C) us) _ _ _
  obtain ⟨hp, g, dr, tk, os⟩ := s1
  have hsz : hp.objs.size ≤ hp.objs.size + 1 := Nat.le_succ _
  have hn : H1 (hp.objs.size + 1) = none := I1.hok.fresh hsz
  have hq := q1 (hp.objs.size + 1) hn
  have kk : ∀ b o, hp.get? b = some o → ((hp.push (PySem.W.kdv_tup us)).push (PySem.HandSPX.excO C hp.objs.size)).get? b = some o := fun b o e => Heap.get?_push_of_some _ (Heap.get?_push_of_some _ e)
  have hget : ((hp.push (PySem.W.kdv_tup us)).push (PySem.HandSPX.excO C hp.objs.size)).get? (hp.objs.size + 1) = some (PySem.HandSPX.excO C hp.objs.size) := by heap_get
  have I2 : Inv X pins σ (upd H1 (hp.objs.size + 1) (exo (hp.objs.size + 1) C none)) ⟨(hp.push (PySem.W.kdv_tup us)).push (PySem.HandSPX.excO C hp.objs.size), g, dr, tk, os⟩ :=
    I1.laid (t' := tk) (a := hp.objs.size + 1) (o := exo (hp.objs.size + 1) C none) (h' := (hp.push (PySem.W.kdv_tup us)).push (PySem.HandSPX.excO C hp.objs.size)) kk hsz (exo_ok hget)
  have r2 : Vals (V.ref (hp.objs.size + 1) :: (vs ++ dvs)) (Value.ref (hp.objs.size + 1) :: (us ++ ds)) := .cons rfl (r1.append hd)
  have hl : (Value.ref (hp.objs.size + 1) :: us ++ ds).length = ps.length := by
    have e := r2.length
    rw [F1.len _ _ _ _ hq] at e
    exact e.symm
  have hus : us.length ≤ sizeLine := by
    rw [← Paired.length r1, sizeLine_eq]
    omega
  refine wpAny_call (PySem.HandSPX.call_own F.excBase_ValueError (fun Y => PySem.HandSPX.refsVE_contains Y bm hbm) (I1.kIn _ _ hC) (PySem.W.looks_findIn I1.kIn iC) (fun self => PySem.W.bind_fn I1.kIn self tI) hus
    (codeAny_mono (F1.run _ X.stack _ _ ⟨Value.ref (hp.objs.size + 1) :: us, []⟩ (Value.ref (hp.objs.size + 1) :: (us ++ ds)) _ _ (fun _ _ _ => False) (hr.make C us []) (I2.env0.make C us []) (hb _ (Value.ref (hp.objs.size + 1) :: us) I2.kIn hl) r2 hq) fun r s' hq' => ?_))
  cases r with
  | error er => exact hx pins σ _ _ er s' I2 hq'
  | ok fl =>
    cases fl with
    | ret u =>
      obtain ⟨v, H2, os2, bare2, un2, hok2, rv, ev, d, fs, ea, ed, hd1, q2⟩ := hq'
      subst ev
      obtain ⟨h2, g2, d2, t2, os'⟩ := s'
      obtain ⟨t0, G, J, kG, ge, hoe, na⟩ := mk_end0 (d2 := d2) (t2 := t2) I1 hsz kk un2 hok2 os2 bare2 ea ed hd1
      exact ⟨rv, hp.objs.size + 1, _, _, ⟨G, g2, d2, t2, os'⟩, _, .ref C, some d, rfl, J, kG, ge, hoe, ⟨rfl, rfl, fun vs hv => by cases hv; rfl⟩, rfl, rfl, na, rfl, bare2, raises_own T.exC T.tyC, q2⟩
    | next => exact False.elim hq'
    | brk => exact False.elim hq'
    | cont => exact False.elim hq'
/-- what such a call of the class wishes of its arguments -/
theorem mkO_at {X : Cx} {B : Bs} {C : Addr} {n : Str} {ns : List Str} {was : WA} {σ : L2.St} {H : Hp} {P : Hp} {al : List Addr} {M : Mt} {env : Ev} {RX : RXe} {Q : XK} (ca : ClsAt X.K n C) (hn : ns.length ≤ 900) (rs : RS X.K B P al M env σ H)
    (hw : was env M fun ds M1 => Need (ds.length = ns.length) ∧ RX n (ns.zip ds).reverse env M1)
    (hQ : ∀ fs P1 al1 M1 H1 d, RS X.K B P1 al1 M1 env σ H1 → XdOk X.K P1 al1 H1 fs (some d) → RX n fs env M1 → Q (.ref C) (some d) H1) : tMkO C (spI C ns) [] (tDA X.K B was) σ H Q := by
  refine ⟨P, al, M, env, _, rs, hw, fun ds M1 vs H1 P1 al1 e1 rs1 r1 q => ?_⟩
  obtain ⟨hl, q⟩ := q
  have hl : vs.length = ns.length := by rw [← r1.length]; exact hl.out
  refine ⟨by omega, fun a hna => ⟨a, vs ++ [], rfl, by simpa using hl, upd_same, fun d hd hne H' h1 h2 h3 => ?_⟩⟩
  rw [List.append_nil] at h2
  have hd' : H1 d = none := by rw [upd_ne hne] at hd; exact hd
  obtain ⟨rs2, xd⟩ := xd_new rs1 hd' (zip_fs (ns := ns) r1).rev
  refine ⟨rfl, d, _, h1, h2, hd', ?_⟩
  rw [del_eq (w := .own a) hna hne h3]
  exact hQ _ P1 al1 M1 _ d rs2 xd q
theorem d_raiseN (hc : X.calm = true) (tk : L2N.Takes X (WL X.K B RX)) (ca : ClsAt X.K n C) (T : OexC X.K C) (iC : PySem.W.findIn X.K (.ref C) "__init__" = some (some (.ref fI))) (tI : PySem.W.typeIn X.K (.ref fI) = some (.type "function"))
    (F1 : FnOk X.prog X.w X.K X.mg X.base CX0 k fI fd ps (spI C ns)) (hn : ns.length ≤ 900) (hr : Room (k + 1) X.A) (hb : Binds X.K fd ps []) (hg : Gl X x) (hm : X.mg x = some (.ref C)) (ha : DA B X (e :: es) was)
    (hdb : (x == ("__debug__" : Str)) = false := by decide) (he : starEach (e :: es) X.env = (false, eval e X.env) :: starEach es X.env := by rfl) (hpl : (backTo pos (starEach es X.env)).any (·.1) = false := by rfl) :
    DS B X (.Raise (some (.Call (.Name x p) (e :: es) [] pos)) none pos2) (wRaise n ns RX was) := by
  refine (L2N.ps_raise hc tk (pmk_oexN T iC tI F1 hr hb .nil (fun _ _ _ _ _ _ _ z => z.elim) hg hm ha hdb he hpl)).imp fun D σ H => ?_
  rintro ⟨P, al, M, env, k, rs, hw, L⟩
  exact mkO_at ca hn rs hw fun fs P1 al1 M1 H1 d rs1 xd q => ⟨C, n, fs, env, P1, al1, M1, rfl, ca, rs1, xd, q⟩
end
/-! ### own errors' __init__ while an exception is handled -/
section
variable {P : Program} {w : World} {K : PySem.W.Frag} {mg : Str → Option Value} {base : Heap} {C : Addr}
theorem Fun.okH {x qual : Str} {st : Stmt} {f : Addr} {fd : FuncData} {N ps : List Str} {k : Nat} {sp : Sp} (F : Fun K x qual st f fd) (S : FnScope N ps (defScope st)) (len : ∀ vs H Q E, sp vs H Q E → vs.length = ps.length)
    (hbody : ∀ (cdv : Value) (A : Around) (outer : List Env) (s : Shared) (H : Hp) (vs : List V) (Q : VK) (E : XK) (p : Addr × Obj), sp vs H Q E →
      ∃ t, PSs (L2H.cxH CX0 P w K mg base N qual (defScope st) f cdv A outer s H E p) (defBody st) t ∧ t { nx := fun _ H' => Q .non H', rt := Q } (L2.start N vs) H) : L2H.FnH P w K mg base CX0 (k + 1) f fd ps sp := by
  obtain ⟨oc, od, kV, doc, pm, an, cdv, ct, osl, rfl, lk, hcd⟩ := F.ex
  exact L2H.fn_ofH lk hcd S len fun A outer s H vs Q E p _ _ hsp => hbody cdv A outer s H vs Q E p hsp
theorem init_2H {x qual : Str} {st : Stmt} {f : Addr} {fd : FuncData} {s a b f1 f2 : Str} {q1 q2 q3 q4 r1 r2 r3 r4 : Pos} (F : Fun K x qual st f fd) (S : FnScope [s, a, b] [s, a, b] (defScope st))
    (hbody : defBody st = [.Assign [.Attribute (.Name s q1) f1 q2] (.Name a q3) q4, .Assign [.Attribute (.Name s r1) f2 r2] (.Name b r3) r4])
    (T : OexC K C) (h1 : PySem.W.findIn K (.ref C) f1 = some none) (h2 : PySem.W.findIn K (.ref C) f2 = some none) (l1 : (defScope st).names.lookup s = some .local) (l2 : (defScope st).names.lookup a = some .local) (l3 : (defScope st).names.lookup b = some .local)
    (d1 : (s == ("__debug__" : Str)) = false := by decide) (d2 : (a == ("__debug__" : Str)) = false := by decide) (d3 : (b == ("__debug__" : Str)) = false := by decide) (hc1 : (s == ("__classdict__" : Str)) = false := by decide) (hc2 : (a == ("__classdict__" : Str)) = false := by decide) (hc3 : (b == ("__classdict__" : Str)) = false := by decide)
    (hsw : ∀ (y o g : Str) (p1 p2 p3 p4 : Pos) (env : Env), swapsWith (.Name y p3) (some (.Attribute (.Name o p1) g p2)) p4.line env = pure false := by intros; rfl) : L2H.FnH P w K mg base CX0 1 f fd [s, a, b] (spI C [f1, f2]) := by
  refine Fun.okH F S (fun vs H Q E h => spI_len (C := C) (ns := [f1, f2]) vs H Q E h) fun cdv A outer s0 H vs Q E p h => ?_
  rw [hbody]
  refine ⟨_, pss_cons (ps_ost (pe_var (i := 0) rfl (.inl l1) d1 hc1) (pe_var (i := 1) rfl (.inl l2) d2 hc2) (hsw ..)) (pss_one (ps_ost (pe_var (i := 0) rfl (.inl l1) d1 hc1) (pe_var (i := 2) rfl (.inl l3) d3 hc3) (hsw ..))), ?_⟩
  obtain ⟨o, ws, rfl, hl, ho, q⟩ := h
  obtain ⟨y, z, rfl⟩ : ∃ y z, ws = [y, z] := by
    match ws, hl with
    | [y, z], _ => exact ⟨y, z, rfl⟩
  refine ⟨y, rfl, .ref o, rfl, o, C, rfl, T, h1, .inl ⟨ho, fun dx hdx hne => ?_⟩⟩
  refine ⟨z, rfl, .ref o, rfl, o, C, rfl, T, h2, .inr ⟨dx, _, upd_same, by rw [upd_ne hne, upd_same], Nat.le_of_ble_eq_true rfl, ?_⟩⟩
  exact q dx hdx hne _ (by rw [upd_ne (Ne.symm hne), upd_same]) upd_same fun b h1 h2 => by rw [upd_ne h2, upd_ne h1, upd_ne h2]
end
/-! ### try: .. except C as n: raise R(..) from n -/
def wTryFrom (ok : List Str) (sub : Str → Bool) (i : Nat) (wb : RXe → WS) (n2 : Str) (ns : List Str) (was : WA) (RX : RXe) : WS := fun k env M =>
  wb (fun n fs env' M' => Need (n ∈ ok) ∧ Need (i < env'.length) ∧ ifB (sub n) (∀ a : Addr, was (env'.set i (some (.adr a))) M' fun ds M1 => Need (ds.length = ns.length) ∧ RX n2 (ns.zip ds).reverse (env'.set i none) M1) (RX n fs env' M')) k env M
section
variable {X : Cx} {B : Bs} {x y n n2 : Str} {Cc C2 fI : Addr} {i k : Nat} {body : List Stmt} {np npos pos pos' p rpos rpos2 : Pos} {e : Expr} {es : List Expr} {RX : RXe} {ok ps ns : List Str} {sub : Str → Bool} {wb : RXe → WS} {was : WA} {fd : FuncData}
theorem d_tryFrom (hs : X.stack = X.env :: X.outer) (hf : X.env.frame = some X.env.locals) (hN : X.N.Nodup) (hi : X.N[i]? = some n) (hln : X.env.kindOf n = some .local) (hc : Names X x (.ref Cc)) (tk : Takes X (WL X.K B RX))
    (hpa : ∀ hd : Option Value, PassesOwnAt (model X.prog X.w) (X.A.mark hd) X.A X.env X.xe)
    (hsub : ∀ n C, n ∈ ok → ClsAt X.K n C → PySem.W.exmOne X.K (.ref C) (.ref Cc) = some (sub n)) (hra : ∀ n C, n ∈ ok → ClsAt X.K n C → Raises X (.ref C))
    (hb : ∀ (B' : Bs) (RX' : RXe) (pn : List (Addr × Obj)) (xe : Value → Shared → Prop), L2N.Takes (X.tr pn xe) (WL X.K B' RX') → DSs B' (X.tr pn xe) body (wb RX'))
    (ca : ClsAt X.K n2 C2) (T : OexC X.K C2) (iC : PySem.W.findIn X.K (.ref C2) "__init__" = some (some (.ref fI))) (tI : PySem.W.typeIn X.K (.ref fI) = some (.type "function"))
    (F1 : L2H.FnH X.prog X.w X.K X.mg X.base CX0 k fI fd ps (spI C2 ns)) (hn : ns.length ≤ 900) (hr : Room (k + 1) X.A) (hbd : Binds X.K fd ps []) (hg : Gl X y) (hm : X.mg y = some (.ref C2))
    (ha : ∀ (B' : Bs) (a : Addr) (pn : List (Addr × Obj)), DA B' (suiteF X a n pos' pn) (e :: es) was)
    (hdb : (y == ("__debug__" : Str)) = false := by decide) (hdn : (n == ("__debug__" : Str)) = false := by decide) (he : starEach (e :: es) X.env = (false, eval e X.env) :: starEach es X.env := by rfl) (hpl : (backTo rpos (starEach es X.env)).any (·.1) = false := by rfl) :
    DS B X (.Try body [.ExceptHandler (some (.Name x np)) (some n) [.Raise (some (.Call (.Name y p) (e :: es) [] rpos)) (some (.Name n npos)) rpos2] pos'] [] [] pos) (wTryFrom ok sub i wb n2 ns was RX) := by
  refine (ps_try_from (Wout := WL X.K B RX) (tb := fun W D σ H => ∃ B' RX', (∀ c d σ H, WL X.K B' RX' c d σ H → W c d σ H) ∧ tDS X.K B' (wb RX') D σ H)
    (ts := fun a oe cls d D σ H => ∃ B', Raises X cls ∧ σ[i]? = some (some (.ref a)) ∧ tMkO C2 (spI C2 ns) [] (tDA X.K B' was) σ H fun cls' d' H' => WL X.K B RX cls' d' (σ.set i none) H') hs hf hN hi hln hc tk hpa
    (fun W pn xe tkW po => ⟨fun pins s σ H D I ⟨B', RX', imp, h⟩ => (hb B' RX' pn xe (tkW.imp imp)).run pins s σ H D I h⟩)
    (fun a oe cls d pn hz hd tkS hot => ⟨fun pins s σ H D I ⟨B', hrs, h1, h2⟩ =>
      (pss_one (ps_raiseHF (X := suiteF X a n pos' ((a, oe) :: pn)) (i := i) (n := n) (npos := npos) (pos := rpos2) hot List.mem_cons_self (by
        intro M h kI
        have := hrs M h kI
        rw [← hz.1] at this
        exact this) tkS (L2H.pmk5_oexH (X := suiteF X a n pos' ((a, oe) :: pn)) T iC tI F1 (L2H.roomH_mark hr _) ⟨_, hot, List.mem_cons_self⟩ hbd (fun _ _ _ _ _ _ _ z => z.elim) hg hm (ha B' a ((a, oe) :: pn)) hdb he hpl) hi hln hdn)).run pins s σ H D I ⟨h1, h2⟩⟩)).imp fun D σ H => ?_
  rintro ⟨P, al, M, env, k, rs, hw, L⟩
  refine ⟨(P, al, H), _, fun c d σ' H' q => ?_, P, al, M, env, k, ⟨rs.toRS0.here, rs.slen, rs.slot⟩, hw, ⟨fun env' M' σ' H' P' al' e rs' q => L.nx _ _ _ _ _ _ e ⟨rs'.toRS0.rebase (rs.base.trans e), rs'.slen, rs'.slot⟩ q, fun d M' v H' P' al' e rs' r q => L.rt _ _ _ _ _ _ e (rs'.rebase (rs.base.trans e)) r q,
    fun env' M' σ' H' P' al' e rs' q => L.bk _ _ _ _ _ _ e ⟨rs'.toRS0.rebase (rs.base.trans e), rs'.slen, rs'.slot⟩ q, fun env' M' σ' H' P' al' e rs' q => L.ct _ _ _ _ _ _ e ⟨rs'.toRS0.rebase (rs.base.trans e), rs'.slen, rs'.slot⟩ q⟩⟩
  obtain ⟨C, nm, fs, env', P', al', M', rfl, ca', rs', xd, ho, hlen, q⟩ := q
  have hil := hlen.out
  have e0 : Ext P al H P' al' H' := rs'.base
  refine ⟨sub nm, hsub nm C ho.out ca', fun hb a oe hna hz hd => ?_, fun hb => ⟨C, nm, fs, env', P', al', M', rfl, ca', ⟨rs'.toRS0.rebase (rs.base.trans e0), rs'.slen, rs'.slot⟩, xd, q.2 hb⟩⟩
  have rs2 : RS X.K (P', al', H') P' al' M' env' σ' H' := ⟨rs'.toRS0.here, rs'.slen, rs'.slot⟩
  have rs3 := rs2.put i (.adr a)
  refine ⟨(P', al', H'), hra nm C ho.out ca', ?_, mkO_at (RX := fun n fs _ M1 => RX n fs (env'.set i none) M1) ca hn rs3 (q.1 hb a) fun fs2 P1 al1 M1 H1 d2 rs4 xd2 q2 => ?_⟩
  · have : i < σ'.length := by rw [rs'.slen.symm]; exact hil
    rw [List.getElem?_set_self (by omega)]
  · have e1 : Ext P' al' H' P1 al1 H1 := rs4.base
    have rs5 := rs4.drp i
    rw [List.set_set, List.set_set] at rs5
    have rs6 : RS X.K B P1 al1 M1 (env'.set i none) ((σ'.set i (some (.ref a))).set i none) H1 := by
      rw [List.set_set]
      exact ⟨rs5.toRS0.rebase (rs.base.trans (e0.trans e1)), rs5.slen, rs5.slot⟩
    exact ⟨C2, n2, fs2, env'.set i none, P1, al1, M1, rfl, ca, rs6, xd2, q2⟩
end
/-- these are exceptions that may be raised -/
inductive RaTab (K : PySem.W.Frag) : List Str → Prop
  | nil : RaTab K []
  | cons {m : Str} {C : Addr} {ok : List Str} : ClsAt K m C → OexC K C → RaTab K ok → RaTab K (m :: ok)
theorem RaTab.look {X : Cx} {ok : List Str} (t : RaTab X.K ok) : ∀ n C, n ∈ ok → ClsAt X.K n C → Raises X (.ref C) := by
  induction t with
  | nil => intro n C h; cases h
  | @cons m Cm ok ca x t ih =>
    intro n C h hc
    rcases List.mem_cons.mp h with rfl | h
    · obtain rfl := ca.one hc
      exact raises_own x.exC x.tyC
    · exact ih n C h hc
end L3

namespace L3
open PySem PySem.Spec PyProof.Rows L2
/-! ### a dict that no longer changes, locked for good ahead of a statement; a loop over its keys -/
section
variable {X : Cx} {B : Bs} {st : Stmt} {w : WS} {i : Nat} {t : TS}
theorem ps_lockP (h : PS X st t) : PS X st (fun D σ H => ∃ d u, H d = some u ∧ Mut (some u) ∧ ∀ od, t D σ (upd H d (.frz od u))) := by
  refine ⟨fun pins s σ H D I q => ?_⟩
  obtain ⟨d, u, hd, mu, q⟩ := q
  obtain ⟨od, I2⟩ := I.lock hd mu
  exact h.run pins s σ _ D I2 (q od)
def wLkD (i : Nat) (w : WS) : WS := fun k env M => match env[i]? with
  | some (some (.cel n)) => match M[n]? with
    | some (.dct ks) => w k (env.map (unCel (.cel n) (.fdc ks))) (M.set n .non)
    | _ => False
  | _ => False
theorem lk_env {K : PySem.W.Frag} {B : Bs} {P : Hp} {al : List Addr} {M : Mt} {env : Ev} {σ : L2.St} {H : Hp} {n : Nat} {a : Addr} {d' : D} (rs : RS K B P al M env σ H) (ha : al[n]? = some a) (rd : Rep K P al d' (.ref a)) :
    RS K B P al M (env.map (unCel (.cel n) d')) σ H := by
  refine ⟨rs.toRS0, by rw [List.length_map]; exact rs.slen, fun j z hz => ?_⟩
  rw [List.getElem?_map] at hz
  cases ho : env[j]? with
  | none => rw [ho] at hz; cases hz
  | some o =>
    rw [ho] at hz
    cases o with
    | none => cases hz
    | some y =>
      obtain ⟨v2, hv2, r2⟩ := rs.slot j y ho
      refine ⟨v2, hv2, ?_⟩
      by_cases hy : y = .cel n
      · subst hy
        have : z = d' := by
          have hz' : some (if n = n then some d' else some (D.cel n)) = some (some z) := hz
          rw [if_pos rfl] at hz'
          cases hz'; rfl
        subst this
        cases r2 with
        | cel e => rw [ha] at e; cases e; exact rd
      · have : z = y := by
          cases y <;> first
            | (cases hz; rfl)
            | (rename_i m
               have hz' : some (if m = n then some d' else some (D.cel m)) = some (some z) := hz
               rw [if_neg (fun e => hy (by rw [e]))] at hz'
               cases hz'; rfl)
        rw [this]; exact r2
theorem d_lkD (h : DS B X st w) : DS B X st (wLkD i w) := by
  refine (ps_lockP h).imp fun D σ H => ?_
  rintro ⟨P, al, M, env, k, rs, hw, L⟩
  unfold wLkD at hw
  split at hw
  · rename_i n hj
    split at hw
    · rename_i ks hm
      obtain ⟨v0, hv0, rv0⟩ := rs.slot _ _ hj
      obtain ⟨a, rfl, ha, hpa, kvs, hka, rk⟩ := cell_at rs.toRS0 hm rv0
      refine ⟨a, .dK kvs, hka, trivial, fun od => ?_⟩
      obtain ⟨el, rl⟩ := rs.toRS0.lock (od := od) hm ha hpa hka
      have rsl := rs.step el rl
      exact ⟨_, al, M.set n .non, _, k, lk_env rsl ha (.fdc upd_same (rk.mono el.pp el.pre)), hw, L.after el⟩
    · exact hw.elim
  · exact hw.elim
/-- for .. in a dict that is locked for good -/
def wItF (we : WE) : WI := fun env M RR => we env M fun d M1 => match d with
  | .fdc ks => RR (ks.map fun p => kD p.1) M1
  | _ => False
end
section
variable {X : Cx} {B : Bs} {tg e : Expr} {we : WE}
theorem di_fdc (h : DE B X e we) : DI B X tg e (wItF we) := by
  refine (pi_keys h).imp fun σ H R => ?_
  rintro ⟨P, al, M, env, RR, rs, hw, L⟩
  refine ⟨P, al, M, env, _, rs, hw, fun d M1 v H1 P1 al1 e1 rs1 r1 q => ?_⟩
  split at q
  · rename_i ks
    cases r1 with
    | fdc q1 rk =>
      rename_i a od kvs
      refine ⟨a, od, rfl, .inl ⟨kvs, rs1.toRS0.same _ _ q1, ?_⟩⟩
      exact L _ _ _ _ _ _ e1 rs1 (walk_keysD q1 rk) q
  · exact q.elim
end
end L3

namespace K09
open PySem PySem.Spec PyProof.Rows L2 L3
local macro_rules | `(tactic| walk_at "hyp") => `(tactic| try simp only [decide_eq_true_eq, decide_eq_false_iff_not, Bool.not_eq_true', Bool.not_eq_false', Int.not_lt, Int.not_le, Bool.false_eq_true, if_false, if_true, reduceIte, strIn_one, List.length_map] at *)
local macro_rules | `(tactic| walk_at "leaf") => `(tactic| (refine Need.mk ?_; first | exact rfl | ((try dsimp only); first | omega | decide | (simp only [List.length_map]; omega) | exact Nat.le_of_ble_eq_true rfl | (decide +kernel) | exact plain_ints _ | exact cdivw (by omega) (by omega) | exact cpow (by omega) (by omega) (by omega) (by omega) | exact cmul_l (by omega) (by omega) | exact cmul_r (by omega) (by omega) | (rw [line16]; omega) | (rw [line16]; simp only [List.length_cons, List.length_nil, List.length_map, List.length_append]; omega) | exact ⟨rfl, rfl⟩)))
local macro_rules | `(tactic| walk_at "call") => `(tactic| fail)
local macro_rules | `(tactic| walk_at "go") => `(tactic| ((conv => whnf); first
  | (refine And.intro ?_ ?_ <;> walk_at "go")
  | (intro h; first | (exact absurd h (by decide)) | (walk_at "hyp"; first | (exfalso; omega) | (exact absurd rfl ‹_›) | walk_at "go"))
  | walk_at "leaf"
  | exact rfl
  | walk_at "call"
  | (refine eqI_int ?_; walk_at "go")
  | (refine eqI_lnil rfl ?_ ?_ <;> walk_at "go")
  | (refine eqI_tnil rfl ?_ ?_ <;> walk_at "go")
  | (refine eqI_str ?_; walk_at "go")
  | (refine eqI_bl ?_; walk_at "go")
  | (refine eqI_0 ?_; walk_at "go")
  | (refine eqI_1 ?_; walk_at "go")
  | (refine eqI_2 ?_; walk_at "go")
  | (refine eqI_3 ?_; walk_at "go")
  | (refine eqI_4 ?_; walk_at "go")
  | (refine eqI_5 ?_; walk_at "go")
  | (refine eqI_6 ?_; walk_at "go")
  | (refine eqI_7 ?_; walk_at "go")
  | (refine eqI_8 ?_; walk_at "go")
  | (refine eqI_9 ?_; walk_at "go")
  | (refine eqI_10 ?_; walk_at "go")
  | (refine len_use rfl ?_; walk_at "go")
  | (refine len_tup rfl ?_; walk_at "go")
  | (refine Exists.intro _ (And.intro (fun _ _ h => h) ?_); walk_at "go")
  | skip))
def LET : Str := "abcdefghijklmnopqrstuvwxyz"
def DIG : Str := "0123456789"
def RES : List V := [.str "to", .str "if", .str "tag", .str "all", .str "none"]
def nmV (s : Str) : Bool := decide (1 ≤ (s.length : Int)) && decide ((s.length : Int) ≤ 8) && !inV (.str s) RES && (match s.cps.toList with
  | c :: _ => decide (c ∈ LET.cps.toList)
  | [] => false) && s.cps.toList.all fun c => decide (c ∈ LET.cps.toList) || decide (c ∈ DIG.cps.toList)
def isNm : D → Bool
  | .str s => nmV s
  | _ => false
def isNum : D → Bool
  | .int i => decide (0 ≤ i) && decide (i ≤ 1000000000)
  | _ => false
/-- values that can be asked -/
def askB : D → Bool
  | .str s => decide (s.length ≤ 1000)
  | .non => true
  | .bl _ => true
  | .int _ => true
  | .tup _ => true
  | .lst _ => true
  | .dct _ => true
  | _ => false
structure Val (d : D) : Prop where
  ask : askB d = true
  nc : ∀ n, noCel n d = true
theorem Val.view {d : D} (h : Val d) (M : Mt) : viewD M d = d := by
  have := h.ask
  cases d <;> first | rfl | (simp [askB] at this)
/-- the pen -/
def pen (cs : List Int) (a r : Int) : D := .lst [.lst (cs.map D.int), .int a, .int r]
def PenOk (n : Int) (b : D) : Prop := ∃ cs a r, b = pen cs a r ∧ 0 ≤ a ∧ a ≤ n ∧ 0 ≤ r
theorem PenOk.mono {n m : Int} {b : D} (h : PenOk n b) (hm : n ≤ m) : PenOk m b := by
  obtain ⟨cs, a, r, e, h1, h2, h3⟩ := h
  exact ⟨cs, a, r, e, h1, by omega, h3⟩
theorem pen_cell {n : Int} {m : D} (h : PenOk n m) (k : Nat) : cellOk k m = true := by
  obtain ⟨cs, a, r, rfl, _⟩ := h
  have : noCels k (cs.map D.int) = true := noCels_mem.mpr fun d hd => by
    obtain ⟨c, _, rfl⟩ := List.mem_map.mp hd; rfl
  simp [cellOk, pen, noCels, noCel, this]
theorem set_rest {cs : List Int} {a r v : Int} {M2 : Mt} {Q : Mt → Prop} (k : Q (pen cs a v :: M2)) : dsetIx (.int v) (.cel 0) (.int 2) (pen cs a r :: M2) Q :=
  setIx_use (l := [.lst (cs.map D.int), .int a, .int r]) rfl (by decide) (by simp) k
theorem set_at {cs : List Int} {a r v : Int} {M2 : Mt} {Q : Mt → Prop} (k : Q (pen cs v r :: M2)) : dsetIx (.int v) (.cel 0) (.int 1) (pen cs a r :: M2) Q :=
  setIx_use (l := [.lst (cs.map D.int), .int a, .int r]) rfl (by decide) (by simp) k
def isInt : D → Bool
  | .int _ => true
  | _ => false
/-! is_integer: 0 value -/
abbrev p_is_integer : List Str := ["value"]
@[irreducible] def sp_is_integer : DSp := fun ds M R _ => ∃ d, ds = [d] ∧ Val d ∧ R (.bl (isInt d)) M
theorem len_is_integer : ∀ ds M R RX, sp_is_integer ds M R RX → ds.length = p_is_integer.length := by
  unfold sp_is_integer; rintro ds M R RX ⟨d, rfl, _⟩; rfl
theorem use_is_integer {d : D} {M : Mt} {R RX} (h : Val d) (k : R (.bl (isInt d)) M) : sp_is_integer [d] M R RX := by
  unfold sp_is_integer; exact ⟨d, rfl, h, k⟩
def w_is_integer : WS :=
  (wRet (wAndV (wCB cIsi (wCons (wVar 0) (wCons (wC (.ty "int")) wNil))) (wNotV (wCB cIsi (wCons (wVar 0) (wCons (wC (.ty "bool")) wNil))))))
theorem wp_is_integer : ∀ ds M R RX, sp_is_integer ds M R RX → M.all (cellOk M.length) = true → noCels M.length ds = true → w_is_integer (fnEnds M.length R) (startE 1 ds) M := by
  unfold sp_is_integer; rintro ds M R RX ⟨d, rfl, h, k⟩ _ _
  have ha := h.ask
  cases d <;> first | (simp [askB] at ha; done) | (walk_at "go" <;> first | exact .keep k | (rename_i z; exact absurd z (by decide)))
/-! is_between: 0 value, 1 least, 2 most -/
abbrev p_is_between : List Str := ["value", "least", "most"]
@[irreducible] def sp_is_between : DSp := fun ds M R _ => ∃ d, ds = [d, .int 0, .int 1000000000] ∧ Val d ∧ R (.bl (isNum d)) M
theorem len_is_between : ∀ ds M R RX, sp_is_between ds M R RX → ds.length = p_is_between.length := by
  unfold sp_is_between; rintro ds M R RX ⟨d, rfl, _⟩; rfl
theorem use_is_between {d : D} {M : Mt} {R RX} (h : Val d) (k : R (.bl (isNum d)) M) : sp_is_between [d, .int 0, .int 1000000000] M R RX := by
  unfold sp_is_between; exact ⟨d, rfl, h, k⟩
def w_is_between : WS :=
  (wRet (wAndV (wCall sp_is_integer [] RX0 (wCons (wVar 0) wNil)) (wChain oLe oLe (wVar 1) (wVar 0) (wVar 2))))
theorem wp_is_between : ∀ ds M R RX, sp_is_between ds M R RX → M.all (cellOk M.length) = true → noCels M.length ds = true → w_is_between (fnEnds M.length R) (startE 3 ds) M := by
  unfold sp_is_between; rintro ds M R RX ⟨d, rfl, h, k⟩ _ _
  walk_at "go"
  refine use_is_integer h ?_
  have ha := h.ask
  cases d with
  | int i =>
    simp only [isInt]
    walk_at "go"
    · rename_i h1
      refine .keep ?_
      have e : isNum (.int i) = decide (i ≤ 1000000000) := by simp [isNum, h1]
      rw [e] at k; exact k
    · rename_i h1
      refine .keep ?_
      have e : isNum (.int i) = false := by
        have : ¬ 0 ≤ i := by omega
        simp [isNum, this]
      rw [e] at k; exact k
  | _ => first | (simp [askB] at ha; done) | (simp only [isInt]; walk_at "go"; exact .keep k)
/-! is_name: 0 value, 1 sign -/
abbrev p_is_name : List Str := ["value"]
@[irreducible] def sp_is_name : DSp := fun ds M R _ => ∃ d, ds = [d] ∧ Val d ∧ R (.bl (isNm d)) M
theorem len_is_name : ∀ ds M R RX, sp_is_name ds M R RX → ds.length = p_is_name.length := by
  unfold sp_is_name; rintro ds M R RX ⟨d, rfl, _⟩; rfl
theorem use_is_name {d : D} {M : Mt} {R RX} (h : Val d) (k : R (.bl (isNm d)) M) : sp_is_name [d] M R RX := by
  unfold sp_is_name; exact ⟨d, rfl, h, k⟩
def w_is_name : WS :=
  (wSeq (wIfS (wOrT (wNotT (wTru (wCB cIsi (wCons (wVar 0) (wCons (wC (.ty "str")) wNil))))) (wOrT (wNotT (wTest (wChain oLe oLe (wC (.int 1)) (wCB cLen (wCons (wVar 0) wNil)) (wC (.int 8))))) (wTest (wOp (oIn false) (wVar 0) (wC (.tup [.str "to", .str "if", .str "tag", .str "all", .str "none"])))))) (wRet (wC (.bl false))) wSkip)
    (wRet (wAndV (wOp (oIn false) (wOp oIx (wVar 0) (wC (.int 0))) (wC (.str "abcdefghijklmnopqrstuvwxyz"))) (wCB (cAll fun bs => bs.all id) (wCons (wLc (wIt (wVar 0)) [1] wYes (wOrV (wOp (oIn false) (wVar 1) (wC (.str "abcdefghijklmnopqrstuvwxyz"))) (wOp (oIn false) (wVar 1) (wC (.str "0123456789")))) [1]) wNil)))))
theorem wp_is_name : ∀ ds M R RX, sp_is_name ds M R RX → M.all (cellOk M.length) = true → noCels M.length ds = true → w_is_name (fnEnds M.length R) (startE 2 ds) M := by
  unfold sp_is_name; rintro ds M R RX ⟨d, rfl, hv, k⟩ _ _
  have ha := hv.ask
  cases d with
  | str s =>
    have hl : s.length ≤ 1000 := by simpa [askB] using ha
    have cut : ∀ b : Bool, nmV s = b → retF M.length R (.bl b) M := fun b e => .keep (by rw [← e]; exact k)
    walk_at "go"
    refine len_str rfl (by rw [line16]; omega) ?_
    walk_at "go"
    · rename_i h1 h2
      refine cut _ ?_
      have : ¬ (s.length : Int) ≤ 8 := by omega
      simp [nmV, this]
    · refine in_flat rfl rfl ?_
      walk_at "go"
      · rename_i h1 h2 h3
        refine cut _ ?_
        have : inV (.str s) RES = true := h3
        simp [nmV, this]
      · rename_i h1 h2 h3
        have h3' : inV (.str s) RES = false := h3
        obtain ⟨c, cs, e⟩ : ∃ c cs, s.cps.toList = c :: cs := by
          cases e : s.cps.toList with
          | nil =>
            have : s.length = 0 := by show s.cps.size = 0; rw [← Array.length_toList, e]; rfl
            omega
          | cons c cs => exact ⟨c, cs, rfl⟩
        have e0 : L2.atI s.cps.toList 0 = some c := by rw [e]; exact atI_nat (j := 0) rfl
        rw [e0]
        walk_at "go"
        refine in_str rfl ?_
        walk_at "go"
        · rename_i h4
          have h4' : c ∈ LET.cps.toList := h4
          refine lcL_map (fun d => match d with | .str x => .bl (strIn x LET || strIn x DIG) | _ => .non) _ _ (by rw [chars_len, line16]; omega) (fun d hd A hA => ?_) ?_
          · obtain ⟨c, hc, rfl⟩ := mem_chars hd
            have hA' : A (.bl (strIn ⟨#[c]⟩ LET || strIn ⟨#[c]⟩ DIG)) M := hA
            clear hA
            walk_at "go"
            refine in_str rfl ?_
            cases hq : strIn ⟨#[c]⟩ LET
            · rw [hq, Bool.false_or] at hA'
              have hq' : strIn ⟨#[c]⟩ "abcdefghijklmnopqrstuvwxyz" = false := hq
              rw [hq']
              walk_at "go"
              refine in_str rfl ?_
              walk_at "go"
              show A (.bl (strIn ⟨#[c]⟩ DIG)) M
              first | exact hA' | (rw [strIn_one]; exact hA')
            · rw [hq, Bool.true_or] at hA'
              have hq' : strIn ⟨#[c]⟩ "abcdefghijklmnopqrstuvwxyz" = true := hq
              rw [hq']
              walk_at "go"
              exact hA'
          · rw [chars_map]
            walk_at "go"
            rw [boolsD_map (g := fun c => strIn ⟨#[c]⟩ LET || strIn ⟨#[c]⟩ DIG) fun _ => rfl]
            walk_at "go"
            refine cut _ ?_
            simp only [nmV, h1, h2, h3', e, h4', List.all_map, strIn_one, decide_true, Bool.not_false, Bool.true_and, Bool.and_true, List.all_cons, Function.comp, id]
            rfl
        · rename_i h4
          refine cut _ ?_
          have h4' : ¬ c ∈ LET.cps.toList := h4
          simp [nmV, e, h4']
    · rename_i h1
      refine cut _ ?_
      have : ¬ 1 ≤ (s.length : Int) := by omega
      simp [nmV, this]
  | _ => first | (simp [askB] at ha; done) | (walk_at "go"; exact .keep k)

/-! need_told: 0 field, 1 number, 2 taken -/
abbrev p_need_told : List Str := ["field", "number", "taken"]
/-- the first thing amiss with a field and a number -/
def inT (taken : List Str) : D → Bool
  | .str s => decide (s ∈ taken)
  | _ => false
def verd (a b c : Bool) (f n : D) : Option (Str × D) := match a, b, c with
  | true, false, true => none
  | true, false, false => some ("InvalidNumber", n)
  | _, _, _ => some ("InvalidName", f)
def verdict (taken : List Str) (f n : D) : Option (Str × D) := verd (isNm f) (inT taken f) (isNum n) f n
/-- what holds the fields that were met: a row without any, or a dict -/
def Taken (M : Mt) (tk : D) (taken : List Str) : Prop := (tk = .tup [] ∧ taken = []) ∨ ∃ ks, viewD M tk = .dct ks ∧ ks.map (·.1) = taken.map fun s => (Sum.inr s : Key)
theorem val_some {ks : List (Key × D)} {taken : List Str} (h : ks.map (·.1) = taken.map fun s => (Sum.inr s : Key)) (s : Str) : (valD ks (Sum.inr s)).isSome = decide (s ∈ taken) := by
  induction ks generalizing taken with
  | nil =>
    cases taken with
    | nil => rfl
    | cons a r => simp at h
  | cons p ks ih =>
    cases taken with
    | nil => simp at h
    | cons a r =>
      rw [List.map_cons, List.map_cons, List.cons.injEq] at h
      have ih := ih h.2
      unfold valD at ih ⊢
      rw [List.find?_cons]
      by_cases e : s = a
      · subst e
        have : decide (p.1 = Sum.inr s) = true := decide_eq_true h.1
        rw [this]; simp
      · have e1 : ¬ p.1 = Sum.inr s := fun z => e (by rw [h.1] at z; exact (Sum.inr.inj z).symm)
        rw [decide_eq_false e1]
        simp only [ih]
        simp [e]
def NMS : List Str := ["alu", "bus", "c", "d7", "shift", "longname", "z0"]
def pr (p : Str × Int) : D := .tup [.str p.1, .int p.2]
structure PairsOk (prs : List (Str × Int)) : Prop where
  nd : (prs.map (·.1)).Nodup
  nm : ∀ p ∈ prs, p.1 ∈ NMS
  nb : ∀ p ∈ prs, 0 ≤ p.2 ∧ p.2 ≤ 1000000000
theorem sub_len : ∀ {l m : List Str}, l.Nodup → (∀ x ∈ l, x ∈ m) → l.length ≤ m.length
  | [], m, _, _ => Nat.zero_le _
  | a :: l, m, nd, hs => by
    have ha : a ∈ m := hs a List.mem_cons_self
    have hl := List.length_erase_of_mem ha
    have hp := List.length_pos_of_mem ha
    have ih := sub_len (l := l) (m := m.erase a) (List.nodup_cons.mp nd).2 fun x hx => (List.mem_erase_of_ne fun z : x = a => (List.nodup_cons.mp nd).1 (by rw [← z]; exact hx)).mpr (hs x (List.mem_cons_of_mem _ hx))
    rw [List.length_cons]; omega
theorem nms_nd : NMS.Nodup := by decide +kernel
theorem rising_all : ∀ (l : List Str) (p : Str), risingS p l = true → ∀ x ∈ l, ¬ x.cps.toList < p.cps.toList
  | [], _, _, x, h => by cases h
  | a :: r, p, h, x, hx => by
    have h' : (!ltCps a.cps.toList p.cps.toList && risingS a r) = true := h
    rw [Bool.and_eq_true, Bool.not_eq_true', ltCps_eq, decide_eq_false_iff_not] at h'
    rcases List.mem_cons.mp hx with rfl | hx
    · exact h'.1
    · exact List.not_lt.mpr (List.le_trans (List.not_lt.mp h'.1) (List.not_lt.mp (rising_all r a h'.2 x hx)))
theorem pair_of_sorted : ∀ (l : List Str), sortedS l = true → l.Pairwise fun a b => ¬ b.cps.toList < a.cps.toList
  | [], _ => .nil
  | a :: r, h => by
    have h' : risingS a r = true := h
    refine List.pairwise_cons.mpr ⟨rising_all r a h', pair_of_sorted r ?_⟩
    cases r with
    | nil => rfl
    | cons b r =>
      have h2 : (!ltCps b.cps.toList a.cps.toList && risingS b r) = true := h'
      rw [Bool.and_eq_true] at h2
      exact h2.2
theorem nms_nm : ∀ s ∈ NMS, nmV s = true ∧ s.length ≤ 8 := by
  have h : NMS.all (fun s => nmV s && decide (s.length ≤ 8)) = true := by decide +kernel
  intro s hs
  have h1 := List.all_eq_true.mp h s hs
  simp only [Bool.and_eq_true, decide_eq_true_eq] at h1
  exact h1
/-! ### pairs, in order -/
abbrev PL := List (Str × Int)
abbrev Asc (l : PL) : Prop := l.Pairwise fun p q => SrtP.lexS q p = false
def nz (p : Str × Int) : Bool := decide (p.2 ≠ 0)
def canon (ps : PL) : PL := (ps.filter nz).mergeSort fun p q => !SrtP.lexS q p
theorem lex_anti {p q : Str × Int} (h1 : SrtP.lexS q p = false) (h2 : SrtP.lexS p q = false) : p = q := by
  have a := SrtP.lexS_no.mp h1
  have b := SrtP.lexS_no.mp h2
  have e1 : p.1 = q.1 := SrtP.str_ext (List.le_antisymm (List.not_lt.mp fun z => a (.inl z)) (List.not_lt.mp fun z => b (.inl z)))
  have e2 : p.2 = q.2 := by
    have a2 : ¬ q.2 < p.2 := fun z => a (.inr ⟨e1.symm, z⟩)
    have b2 : ¬ p.2 < q.2 := fun z => b (.inr ⟨e1, z⟩)
    omega
  exact Prod.ext e1 e2
theorem asc_uniq {l m : PL} (h1 : Asc l) (h2 : Asc m) (p : l.Perm m) : l = m := List.Perm.eq_of_pairwise (fun _ _ _ _ => lex_anti) h1 h2 p
theorem canon_perm (ps : PL) : (canon ps).Perm (ps.filter nz) := List.mergeSort_perm _ _
theorem canon_asc (ps : PL) : Asc (canon ps) := by
  have := List.pairwise_mergeSort (le := fun p q : Str × Int => !SrtP.lexS q p) (fun a b c h1 h2 => by
    simp only [Bool.not_eq_true'] at h1 h2 ⊢
    exact SrtP.lexS_tr h1 h2) (fun a b => by
    cases h : SrtP.lexS b a
    · rfl
    · rw [SrtP.lexS_asym h]; rfl) (ps.filter nz)
  exact this.imp fun h => by simpa using h
theorem canon_of {ps qs : PL} (h : qs.Perm (ps.filter nz)) (ha : Asc qs) : qs = canon ps := asc_uniq ha (canon_asc ps) (h.trans (canon_perm ps).symm)
theorem canon_mem {ps : PL} {p : Str × Int} : p ∈ canon ps ↔ p ∈ ps ∧ p.2 ≠ 0 := by
  rw [(canon_perm ps).mem_iff, List.mem_filter]
  simp [nz]
theorem canon_nd {ps : PL} (h : (ps.map (·.1)).Nodup) : ((canon ps).map (·.1)).Nodup :=
  ((canon_perm ps).map (·.1)).nodup_iff.mpr (h.sublist ((List.filter_sublist).map _))
theorem canon_ok {ps : PL} (h : PairsOk ps) : PairsOk (canon ps) :=
  ⟨canon_nd h.nd, fun p hp => h.nm p (canon_mem.mp hp).1, fun p hp => h.nb p (canon_mem.mp hp).1⟩
theorem canon_canon (ps : PL) : canon (canon ps) = canon ps := by
  refine (canon_of ?_ (canon_asc ps)).symm
  rw [List.filter_eq_self.mpr fun p hp => by simp [nz, (canon_mem.mp hp).2]]
theorem ok_len {ps : PL} (h : PairsOk ps) : ps.length ≤ 7 := by
  have := sub_len h.nd (m := NMS) fun x hx => by
    obtain ⟨p, hp, rfl⟩ := List.mem_map.mp hx
    exact h.nm p hp
  rw [List.length_map] at this
  have e7 : NMS.length = 7 := by decide
  omega
theorem ok_perm {ps qs : PL} (h : PairsOk ps) (p : qs.Perm ps) : PairsOk qs := ⟨(p.map (·.1)).nodup_iff.mpr h.nd, fun x hx => h.nm x (p.subset hx), fun x hx => h.nb x (p.subset hx)⟩
/-- the number of a field -/
def getN (ps : PL) (s : Str) : Int := (ps.lookup s).getD 0
theorem look_nd : ∀ {ps : PL}, (ps.map (·.1)).Nodup → ∀ {s : Str} {i : Int}, ps.lookup s = some i ↔ (s, i) ∈ ps
  | [], _, s, i => by simp
  | (a, j) :: r, nd, s, i => by
    obtain ⟨n1, n2⟩ := List.nodup_cons.mp nd
    rw [List.lookup_cons]
    by_cases e : s = a
    · subst e
      simp only [beq_self_eq_true, Option.some.injEq, List.mem_cons, Prod.mk.injEq, true_and]
      exact ⟨fun h => .inl h.symm, fun h => h.elim (·.symm) fun h => absurd (List.mem_map.mpr ⟨_, h, rfl⟩) n1⟩
    · have e2 : (s == a) = false := by simpa using e
      rw [e2]
      simp only [List.mem_cons, Prod.mk.injEq, e, false_and, false_or]
      exact look_nd n2
theorem getN_mem {ps : PL} (nd : (ps.map (·.1)).Nodup) {p : Str × Int} (h : p ∈ ps) : getN ps p.1 = p.2 := by
  unfold getN; rw [(look_nd nd).mpr (show (p.1, p.2) ∈ ps from h)]; rfl
theorem getN_canon {ps : PL} (nd : (ps.map (·.1)).Nodup) (s : Str) : getN (canon ps) s = getN ps s := by
  unfold getN
  cases h : ps.lookup s with
  | none =>
    cases h2 : (canon ps).lookup s with
    | none => rfl
    | some i =>
      have := (canon_mem.mp ((look_nd (canon_nd nd)).mp h2)).1
      rw [(look_nd nd).mpr this] at h; cases h
  | some i =>
    have hm := (look_nd nd).mp h
    by_cases e : i = 0
    · subst e
      cases h2 : (canon ps).lookup s with
      | none => rfl
      | some j =>
        obtain ⟨g1, g2⟩ := canon_mem.mp ((look_nd (canon_nd nd)).mp h2)
        rw [(look_nd nd).mpr g1] at h; cases h
        exact absurd rfl g2
    · rw [(look_nd (canon_nd nd)).mpr (canon_mem.mpr ⟨hm, e⟩)]
/-- names in order, with their numbers -/
theorem asc_names {ps : PL} {ns : List Str} (nd : (ps.map (·.1)).Nodup) (hp : ns.Perm (ps.map (·.1))) (hs : sortedS ns = true) : (ns.map fun s => (s, getN ps s)).Perm ps ∧ Asc (ns.map fun s => (s, getN ps s)) := by
  have e : (ps.map (·.1)).map (fun s => (s, getN ps s)) = ps := by
    rw [List.map_map]
    refine (List.map_congr_left fun p hm => ?_).trans (List.map_id ps)
    show (p.1, getN ps p.1) = p
    rw [getN_mem nd hm]
  refine ⟨by have := hp.map fun s => (s, getN ps s); rw [e] at this; exact this, ?_⟩
  refine List.pairwise_map.mpr (List.Pairwise.imp_of_mem (fun {a b} ha hb hab => ?_) (List.Pairwise.and (pair_of_sorted ns hs) (hp.nodup_iff.mpr nd)))
  refine SrtP.lexS_no.mpr fun z => ?_
  rcases z with z | ⟨z, _⟩
  · exact hab.1 z
  · exact hab.2 z.symm
theorem filt_asc {ps qs : PL} (hp : qs.Perm ps) (ha : Asc qs) : qs.filter nz = canon ps := canon_of (hp.filter nz) (ha.filter nz)
/-! ### what clashes -/
def bad (two : PL) (p : Str × Int) : Bool := decide (getN two p.1 ≠ 0 ∧ getN two p.1 ≠ p.2)
def clash (one two : PL) : Option (Str × Int × Int) := (one.find? (bad two)).map fun p => (p.1, p.2, getN two p.1)
/-- put at its key -/
def put1 (acc : PL) (p : Str × Int) : PL := if acc.any (fun q => decide (q.1 = p.1)) then acc.map (fun q => if q.1 = p.1 then (q.1, p.2) else q) else acc ++ [p]
def mrg (l : PL) : PL := l.foldl put1 []
theorem put1_ok {acc : PL} {p : Str × Int} (h : PairsOk acc) (hn : p.1 ∈ NMS) (hb : 0 ≤ p.2 ∧ p.2 ≤ 1000000000) : PairsOk (put1 acc p) := by
  unfold put1
  split
  · have e : (acc.map (fun q => if q.1 = p.1 then (q.1, p.2) else q)).map (·.1) = acc.map (·.1) := by
      rw [List.map_map]
      refine List.map_congr_left fun q _ => ?_
      show (if q.1 = p.1 then (q.1, p.2) else q).1 = q.1
      split <;> rfl
    refine ⟨by rw [e]; exact h.nd, fun q hq => ?_, fun q hq => ?_⟩
    · have : q.1 ∈ acc.map (·.1) := by rw [← e]; exact List.mem_map.mpr ⟨q, hq, rfl⟩
      obtain ⟨q', h1, h2⟩ := List.mem_map.mp this
      rw [← h2]; exact h.nm q' h1
    · obtain ⟨q', h1, rfl⟩ := List.mem_map.mp hq
      split
      · exact hb
      · exact h.nb q' h1
  · rename_i hf
    have hno : p.1 ∉ acc.map (·.1) := fun z => by
      obtain ⟨q, h1, h2⟩ := List.mem_map.mp z
      exact hf (List.any_eq_true.mpr ⟨q, h1, decide_eq_true h2⟩)
    refine ⟨?_, fun q hq => ?_, fun q hq => ?_⟩
    · rw [List.map_append, List.nodup_append]
      refine ⟨h.nd, by simp, fun a ha b hb e => ?_⟩
      have : b = p.1 := by simpa using hb
      rw [e, this] at ha; exact hno ha
    · rcases List.mem_append.mp hq with z | z
      · exact h.nm q z
      · have : q = p := by simpa using z
        rw [this]; exact hn
    · rcases List.mem_append.mp hq with z | z
      · exact h.nb q z
      · have : q = p := by simpa using z
        rw [this]; exact hb
theorem mrg_ok {l : PL} (h : ∀ p ∈ l, p.1 ∈ NMS ∧ 0 ≤ p.2 ∧ p.2 ≤ 1000000000) : PairsOk (mrg l) := by
  have : ∀ (l acc : PL), (∀ p ∈ l, p.1 ∈ NMS ∧ 0 ≤ p.2 ∧ p.2 ≤ 1000000000) → PairsOk acc → PairsOk (l.foldl put1 acc) := by
    intro l
    induction l with
    | nil => intro acc _ h; exact h
    | cons p r ih =>
      intro acc h ho
      obtain ⟨h1, h2⟩ := h p List.mem_cons_self
      exact ih _ (fun q hq => h q (List.mem_cons_of_mem _ hq)) (put1_ok ho h1 h2)
  exact this l [] h ⟨by simp, by simp, by simp⟩
theorem mrg_cat {a b : PL} (ha : PairsOk a) (hb : PairsOk b) : PairsOk (mrg (a ++ b)) := mrg_ok fun p hp => by
  rcases List.mem_append.mp hp with z | z
  · exact ⟨ha.nm p z, ha.nb p z⟩
  · exact ⟨hb.nm p z, hb.nb p z⟩
/-- a dict of numbers -/
def kdI (ps : PL) : List (Key × D) := ps.map fun p => (Sum.inr p.1, .int p.2)
theorem kp_map : ∀ ps : PL, kpD (ps.map pD) = some (kdI ps)
  | [] => rfl
  | p :: r => by
    show (match keyD (D.str p.1), kpD (r.map pD) with | some k', some r' => some ((k', D.int p.2) :: r') | _, _ => none) = _
    rw [kp_map r]; rfl
theorem put_kdI (acc : PL) (p : Str × Int) : putD (kdI acc) (Sum.inr p.1) (.int p.2) = kdI (put1 acc p) := by
  have e : ((kdI acc).any fun kv => decide (kv.1 = (Sum.inr p.1 : Key))) = acc.any (fun q => decide (q.1 = p.1)) := by
    unfold kdI
    rw [List.any_map]
    refine List.any_congr rfl fun q => ?_
    show decide ((Sum.inr q.1 : Key) = Sum.inr p.1) = decide (q.1 = p.1)
    by_cases h : q.1 = p.1
    · rw [h]; simp
    · rw [decide_eq_false h, decide_eq_false fun z => h (Sum.inr.inj z)]
  unfold putD put1
  rw [e]
  split
  · unfold kdI
    rw [List.map_map, List.map_map]
    refine List.map_congr_left fun q _ => ?_
    show (if (Sum.inr q.1 : Key) = Sum.inr p.1 then ((Sum.inr q.1 : Key), D.int p.2) else (Sum.inr q.1, D.int q.2)) = _
    by_cases h : q.1 = p.1
    · have h' : (Sum.inr q.1 : Key) = Sum.inr p.1 := by rw [h]
      rw [if_pos h']
      show _ = ((Sum.inr (if q.1 = p.1 then (q.1, p.2) else q).1 : Key), D.int (if q.1 = p.1 then (q.1, p.2) else q).2)
      rw [if_pos h]
    · have h' : ¬ (Sum.inr q.1 : Key) = Sum.inr p.1 := fun z => h (Sum.inr.inj z)
      rw [if_neg h']
      show _ = ((Sum.inr (if q.1 = p.1 then (q.1, p.2) else q).1 : Key), D.int (if q.1 = p.1 then (q.1, p.2) else q).2)
      rw [if_neg h]
  · unfold kdI; rw [List.map_append]; rfl
theorem merge_kdI (l : PL) : mergeD [] (kdI l) = kdI (mrg l) := by
  have : ∀ (l acc : PL), (kdI l).foldl (fun acc kv => putD acc kv.1 kv.2) (kdI acc) = kdI (l.foldl put1 acc) := by
    intro l
    induction l with
    | nil => intro acc; rfl
    | cons p r ih =>
      intro acc
      show (kdI r).foldl _ (putD (kdI acc) (Sum.inr p.1) (.int p.2)) = _
      rw [put_kdI]; exact ih _
  exact this l []
theorem put1_new {acc : PL} {p : Str × Int} (h : p.1 ∉ acc.map (·.1)) : put1 acc p = acc ++ [p] := by
  unfold put1
  rw [if_neg]
  intro z
  obtain ⟨q, h1, h2⟩ := List.any_eq_true.mp z
  exact h (List.mem_map.mpr ⟨q, h1, of_decide_eq_true h2⟩)
theorem mrg_nd {l : PL} (nd : (l.map (·.1)).Nodup) : mrg l = l := by
  have : ∀ (l acc : PL), ((acc ++ l).map (·.1)).Nodup → l.foldl put1 acc = acc ++ l := by
    intro l
    induction l with
    | nil => intro acc _; simp
    | cons p r ih =>
      intro acc nd
      have hp : p.1 ∉ acc.map (·.1) := fun z => by
        rw [List.map_append, List.nodup_append] at nd
        exact nd.2.2 _ z p.1 List.mem_cons_self rfl
      show r.foldl put1 (put1 acc p) = _
      rw [put1_new hp, ih (acc ++ [p]) (by simpa using nd)]
      simp
  exact (this l [] (by simpa using nd)).trans (List.nil_append l)
theorem val_kdI (ps : PL) (s : Str) : ((valD (kdI ps) (Sum.inr s)).getD (.int 0)) = .int (getN ps s) := by
  induction ps with
  | nil => rfl
  | cons p r ih =>
    obtain ⟨a, j⟩ := p
    unfold valD kdI getN at ih ⊢
    rw [List.map_cons, List.find?_cons, List.lookup_cons]
    by_cases e : a = s
    · subst e; simp
    · have e1 : ¬ (Sum.inr a : Key) = Sum.inr s := fun z => e (Sum.inr.inj z)
      have e2 : (s == a) = false := by simpa using Ne.symm e
      rw [decide_eq_false e1, e2]
      exact ih
theorem val_kdI_some {ps : PL} {s : Str} (h : s ∈ ps.map (·.1)) : valD (kdI ps) (Sum.inr s) = some (.int (getN ps s)) := by
  have e := val_kdI ps s
  cases hv : valD (kdI ps) (Sum.inr s) with
  | some d => rw [hv] at e; rw [← e]; rfl
  | none =>
    exfalso
    unfold valD at hv
    rw [Option.map_eq_none_iff, List.find?_eq_none] at hv
    obtain ⟨p, hp, rfl⟩ := List.mem_map.mp h
    exact hv (Sum.inr p.1, .int p.2) (List.mem_map.mpr ⟨p, hp, rfl⟩) (by simp)
/-- signals -/
def sig (t : PL) : D := .obj "Signals" [("told", .ptp (t.map pD))]
theorem noC_pD (n : Nat) (t : PL) : noCels n (t.map pD) = true := noCels_mem.mpr fun d hd => by
  obtain ⟨p, _, rfl⟩ := List.mem_map.mp hd; rfl
theorem noC_sig (n : Nat) (t : PL) : noCel n (sig t) = true := by
  show (noCel n (.ptp (t.map pD)) && true) = true
  rw [Bool.and_true]
  exact noC_pD n t
@[irreducible] def sp_need_told : DSp := fun ds M R RX => ∃ (f n tk : D) (taken : List Str), ds = [f, n, tk] ∧ Val f ∧ Val n ∧ Taken M tk taken ∧ match verdict taken f n with
  | some x => RX x.1 [("value", x.2)] M
  | none => R .non M
theorem len_need_told : ∀ ds M R RX, sp_need_told ds M R RX → ds.length = p_need_told.length := by
  unfold sp_need_told; rintro ds M R RX ⟨_, _, _, _, rfl, _⟩; rfl
theorem use_need_told {f n tk : D} {taken : List Str} {M : Mt} {R RX} (hf : Val f) (hn : Val n) (ht : Taken M tk taken) (k : match verdict taken f n with
  | some x => RX x.1 [("value", x.2)] M
  | none => R .non M) : sp_need_told [f, n, tk] M R RX := by
  unfold sp_need_told; exact ⟨f, n, tk, taken, rfl, hf, hn, ht, k⟩
def w_need_told (RX : RXe) : WS :=
  (wSeq (wIfS (wOrT (wNotT (wTru (wCall sp_is_name [] RX0 (wCons (wVar 0) wNil)))) (wTest (wOp (oInU false) (wVar 0) (wVar 2)))) (wRaise "InvalidName" ["value"] RX (wCons (wVar 0) wNil)) wSkip)
    (wIfS (wNotT (wTru (wCall sp_is_between [] RX0 (wCons (wVar 1) (wCons (wC (.int 0)) (wCons (wCVal "Signals" (.int 1000000000) (wC (.cls "Signals"))) wNil)))))) (wRaise "InvalidNumber" ["value"] RX (wCons (wVar 1) wNil)) wSkip))
theorem wp_need_told : ∀ ds M R RX, sp_need_told ds M R RX → M.all (cellOk M.length) = true → noCels M.length ds = true → w_need_told (fun nm fs _ M' => rxF M.length RX nm fs M') (fnEnds M.length R) (startE 3 ds) M := by
  unfold sp_need_told; rintro ds M R RX ⟨f, n, tk, taken, rfl, hf, hn, ht, k⟩ _ _
  walk_at "go"
  refine use_is_name hf ?_
  unfold verdict at k
  cases hnm : isNm f
  · rw [hnm] at k
    walk_at "go"
    exact .keep k
  · rw [hnm] at k
    obtain ⟨s, rfl⟩ : ∃ s, f = .str s := by cases f <;> first | exact ⟨_, rfl⟩ | cases hnm
    have inq : ∀ Q : D → Mt → Prop, Q (.bl (inT taken (.str s))) M → oInU false (.str s) tk M Q := fun Q q => by
      rcases ht with ⟨rfl, rfl⟩ | ⟨ks, hv, hk⟩
      · refine inU_seq (fun ks z => by cases z) (in_use (ns := []) (.inr rfl) ?_)
        exact q
      · refine inU_dct hv rfl ?_
        rw [val_some hk]; exact q
    walk_at "go"
    refine inq _ ?_
    cases hin : inT taken (.str s)
    · rw [hin] at k
      walk_at "go"
      refine use_is_between hn ?_
      cases hb : isNum n
      · rw [hb] at k
        walk_at "go"
        exact .keep k
      · rw [hb] at k
        walk_at "go"
        exact .keep k
    · rw [hin] at k
      walk_at "go"
      exact .keep k

/-! Signals.__init__: 0 this_object, 1 fields, 2 field -/
abbrev p_Signals_init__ : List Str := ["this_object", "fields"]
theorem get_use {ks : List (Key × D)} {x y d : D} {k : Key} {M : Mt} {R : D → Mt → Prop} (h : viewD M x = .dct ks) (hk : keyD y = some k) (hv : valD ks k = some d) (q : R d M) : oDGet x y M R := by
  simp only [oDGet, h, hk, hv]; exact q
theorem sortS_use {x : D} {ns : List Str} {M : Mt} {R : D → Mt → Prop} (h : viewD M x = .lst (ns.map D.str)) (hl : ns.length < 64) (k : ∀ ns' : List Str, ns'.Perm ns → sortedS ns' = true → R (.lst (ns'.map D.str)) M) : cSortS [x] M R := by
  simp only [cSortS, h, lstD, strsD_map]; exact ⟨⟨hl⟩, k⟩
theorem dput_last {M : Mt} {ks : List (Key × D)} {y d : D} {j : Key} {R : Mt → Prop} {n : Nat} (hn : n = M.length) (hk : keyD y = some j) (hl : ks.length < sizeLine) (k : R (M ++ [.dct (putD ks j d)])) : dput (.cel n) y d (M ++ [.dct ks]) R := by
  subst hn
  have e1 : (M ++ [D.dct ks])[M.length]? = some (.dct ks) := by simp
  have e2 : (M ++ [D.dct ks]).set M.length (.dct (putD ks j d)) = M ++ [.dct (putD ks j d)] := by simp
  unfold dput
  rw [hk]
  simp only [e1, e2]; exact ⟨⟨hl⟩, k⟩
theorem view_lastK {M : Mt} {ks : List (Key × D)} : viewD (M ++ [.dct ks]) (.cel M.length) = .dct ks := by
  have e1 : (M ++ [D.dct ks])[M.length]? = some (.dct ks) := by simp
  show (match (M ++ [D.dct ks])[M.length]? with | some (.lst l) => D.lst l | some (.dct l) => D.dct l | some (.obj C fs) => D.obj C fs | _ => D.cel M.length) = _
  rw [e1]
theorem keys_kdI (ps : PL) : (kdI ps).map (fun p => kD p.1) = (ps.map (·.1)).map D.str := by
  unfold kdI; rw [List.map_map, List.map_map]; rfl
theorem good_verdict {taken : List Str} {p : Str × Int} (h1 : p.1 ∈ NMS) (h2 : 0 ≤ p.2 ∧ p.2 ≤ 1000000000) (h3 : p.1 ∉ taken) : verdict taken (.str p.1) (.int p.2) = none := by
  unfold verdict
  have e1 : isNm (.str p.1) = true := (nms_nm _ h1).1
  have e2 : inT taken (.str p.1) = false := decide_eq_false h3
  have e3 : isNum (.int p.2) = true := by simp [isNum, h2.1, h2.2]
  rw [e1, e2, e3]; rfl
theorem val_nm8 {s : Str} (h : s ∈ NMS) : Val (.str s) := ⟨by have := (nms_nm s h).2; simp [askB]; omega, fun n => rfl⟩
@[irreducible] def sp_Signals_init__ : DSp := fun ds M R RX => ∃ (M0 : Mt) (ps : PL), ds = [.cel M0.length, .dct (kdI ps)] ∧ M = M0 ++ [.obj "Signals" []] ∧ PairsOk ps ∧ R .non (M0 ++ [sig (canon ps)])
theorem len_Signals_init__ : ∀ ds M R RX, sp_Signals_init__ ds M R RX → ds.length = p_Signals_init__.length := by
  unfold sp_Signals_init__; rintro ds M R RX ⟨_, _, rfl, _⟩; rfl
theorem use_Signals_init__ {M0 : Mt} {ps : PL} {R RX} (h1 : PairsOk ps) (k : R .non (M0 ++ [sig (canon ps)])) : sp_Signals_init__ [.cel M0.length, .dct (kdI ps)] (M0 ++ [.obj "Signals" []]) R RX := by
  unfold sp_Signals_init__; exact ⟨M0, ps, rfl, rfl, h1, k⟩
def w_Signals_init__ (RX : RXe) : WS :=
  (wSeq (wFor (wIt (wCB cSortS (wCons (wCB (cListA false) (wCons (wVar 1) wNil)) wNil))) (gN 2) (wExp (wCallX sp_need_told [.tup []] RX (wCons (wVar 2) (wCons (wOp oDGet (wVar 1) (wVar 2)) wNil)))))
    (wSetF "Signals" "told" (wVar 0) (wCB cTupP (wCons (wLc (wIt (wCB cSortS (wCons (wCB (cListA false) (wCons (wVar 1) wNil)) wNil))) [2] (wTest (wOp (oEqI fun b => !b) (wOp oDGet (wVar 1) (wVar 2)) (wC (.int 0)))) (wTup (wCons (wVar 2) (wCons (wOp oDGet (wVar 1) (wVar 2)) wNil))) [2]) wNil))))
theorem wp_Signals_init__ : ∀ ds M R RX, sp_Signals_init__ ds M R RX → M.all (cellOk M.length) = true → noCels M.length ds = true → w_Signals_init__ (fun nm fs _ M' => rxF M.length RX nm fs M') (fnEnds M.length R) (startE 3 ds) M := by
  unfold sp_Signals_init__; rintro ds M R RX ⟨M0, ps, rfl, rfl, ok, k⟩ hM hds
  have hl := ok_len ok
  walk_at "go"
  rw [keys_kdI, strsD_map]
  walk_at "go"
  rename_i ns hp hs
  refine forL_inv (fun i env M => ∃ e2, env = [some (.cel M0.length), some (.dct (kdI ps)), e2] ∧ M = M0 ++ [.obj "Signals" []]) ⟨none, rfl, rfl⟩ ?_ ?_
  · rintro i d env M hd ⟨e2, rfl, rfl⟩
    obtain ⟨s, hsm, rfl⟩ := List.mem_map.mp (List.mem_of_getElem? hd)
    have hsp : s ∈ ps.map (·.1) := hp.subset hsm
    obtain ⟨p, hpm, rfl⟩ := List.mem_map.mp hsp
    walk_at "go"
    refine get_use rfl rfl (val_kdI_some hsp) ?_
    rw [getN_mem ok.nd hpm]
    walk_at "go"
    refine use_need_told (taken := []) (val_nm8 (ok.nm p hpm)) ⟨rfl, fun n => rfl⟩ (.inl ⟨rfl, rfl⟩) ?_
    rw [good_verdict (ok.nm p hpm) (ok.nb p hpm) (by simp)]
    walk_at "go"
    exact ⟨_, rfl, rfl⟩
  rintro env M ⟨e2, rfl, rfl⟩
  walk_at "go"
  rw [keys_kdI, strsD_map]
  walk_at "go"
  rename_i ns2 hp2 hs2
  obtain ⟨an1, an2⟩ := asc_names ok.nd hp2 hs2
  refine lcL_inv (fun i acc M => M = M0 ++ [.obj "Signals" []] ∧ acc = (((ns2.take i).map fun s => (s, getN ps s)).filter nz).map pD) (by rw [List.length_map, hp2.length_eq, List.length_map, line16]; omega) ⟨rfl, rfl⟩ ?_ ?_
  · rintro i d acc M A C hd ⟨rfl, rfl⟩ hA hC
    obtain ⟨s, hsi, rfl⟩ : ∃ s, ns2[i]? = some s ∧ d = .str s := by
      rw [List.getElem?_map] at hd
      cases h : ns2[i]? with
      | none => rw [h] at hd; cases hd
      | some p => rw [h] at hd; exact ⟨p, rfl, (Option.some.inj hd).symm⟩
    have hsp : s ∈ ps.map (·.1) := hp2.subset (List.mem_of_getElem? hsi)
    have et : ns2.take (i + 1) = ns2.take i ++ [s] := by rw [List.take_add_one, hsi]; rfl
    walk_at "go"
    refine get_use rfl rfl (val_kdI_some hsp) ?_
    walk_at "go"
    · refine get_use rfl rfl (val_kdI_some hsp) ?_
      walk_at "go"
      refine hA _ _ ⟨rfl, ?_⟩
      have hz : nz (s, getN ps s) = true := by simp [nz]; assumption
      rw [et, List.map_append, List.filter_append, List.map_append]
      simp [hz, pD]
    · refine hC _ ⟨rfl, ?_⟩
      have hz : nz (s, getN ps s) = false := by simp [nz]; assumption
      rw [et, List.map_append, List.filter_append, List.map_append]
      simp [hz]
  · rintro acc M hal ⟨rfl, rfl⟩
    rw [List.length_map, List.take_length, filt_asc an1 an2]
    walk_at "go"
    refine tupP_use rfl ?_
    refine setF_use (T := []) ?_ (by simp)
    walk_at "go"
    exact .keep k
/-! Signals.of: 0 cls, 1 pairs, 2 found, 3 field, 4 number -/
abbrev p_Signals_of : List Str := ["cls", "pairs"]
def Row (d : D) (ps : PL) : Prop := d = .lst (ps.map pD) ∨ d = .tup (ps.map pD)
@[irreducible] def sp_Signals_of : DSp := fun ds M R RX => ∃ (d : D) (ps : PL), ds = [.cls "Signals", d] ∧ Row d ps ∧ PairsOk ps ∧ R (sig (canon ps)) M
theorem len_Signals_of : ∀ ds M R RX, sp_Signals_of ds M R RX → ds.length = p_Signals_of.length := by
  unfold sp_Signals_of; rintro ds M R RX ⟨_, _, rfl, _⟩; rfl
theorem use_Signals_of {d : D} {ps : PL} {M : Mt} {R RX} (h1 : Row d ps) (h2 : PairsOk ps) (k : R (sig (canon ps)) M) : sp_Signals_of [.cls "Signals", d] M R RX := by
  unfold sp_Signals_of; exact ⟨d, ps, rfl, h1, h2, k⟩
def w_Signals_of (RX : RXe) : WS :=
  (wSeq (wAsg (wDict0 true) (gN 2))
    (wSeq (wFor (wIt (wVar 1)) (gT 2 (gsCons (gN 3) (gsCons (gN 4) gsNil))) (wSeq (wExp (wCallX sp_need_told [] RX (wCons (wVar 3) (wCons (wVar 4) (wCons (wVar 2) wNil)))))
    (wDPut (wVar 2) (wVar 3) (wVar 4))))
    (wRet (wMkSL 0 "Signals" "this_object" sp_Signals_init__ RX 2))))
theorem wp_Signals_of : ∀ ds M R RX, sp_Signals_of ds M R RX → M.all (cellOk M.length) = true → noCels M.length ds = true → w_Signals_of (fun nm fs _ M' => rxF M.length RX nm fs M') (fnEnds M.length R) (startE 5 ds) M := by
  unfold sp_Signals_of; rintro ds M R RX ⟨d, ps, rfl, hrow, ok, k⟩ hM hds
  have hl := ok_len ok
  have main : forL (gT 2 (gsCons (gN 3) (gsCons (gN 4) gsNil))) (wSeq (wExp (wCallX sp_need_told [] (fun nm fs _ M' => rxF M.length RX nm fs M') (wCons (wVar 3) (wCons (wVar 4) (wCons (wVar 2) wNil))))) (wDPut (wVar 2) (wVar 3) (wVar 4)))
      { nx := wRet (wMkSL 0 "Signals" "this_object" sp_Signals_init__ (fun nm fs _ M' => rxF M.length RX nm fs M') 2) (fnEnds M.length R), rt := (fnEnds M.length R).rt, bk := (fnEnds M.length R).bk, ct := (fnEnds M.length R).ct } (ps.map pD) [some (.cls "Signals"), some d, some (.cel M.length), none, none] (M ++ [.dct []]) := by
    refine forL_inv (fun i env M' => ∃ (e3 e4 : Option D), env = [some (.cls "Signals"), some d, some (.cel M.length), e3, e4] ∧ M' = M ++ [.dct (kdI (ps.take i))]) ⟨none, none, rfl, rfl⟩ ?_ ?_
    · rintro i d2 env M' hd ⟨e3, e4, rfl, rfl⟩
      obtain ⟨p, hpi, rfl⟩ : ∃ p, ps[i]? = some p ∧ d2 = pD p := by
        rw [List.getElem?_map] at hd
        cases h : ps[i]? with
        | none => rw [h] at hd; cases hd
        | some p => rw [h] at hd; exact ⟨p, rfl, (Option.some.inj hd).symm⟩
      have hpm := List.mem_of_getElem? hpi
      have et : ps.take (i + 1) = ps.take i ++ [p] := by rw [List.take_add_one, hpi]; rfl
      have hnew : p.1 ∉ (ps.take i).map (·.1) := fun z => by
        have nd : ((ps.take (i + 1)).map (·.1)).Nodup := ok.nd.sublist ((List.take_sublist _ _).map _)
        rw [et, List.map_append, List.nodup_append] at nd
        exact nd.2.2 _ z p.1 (by simp) rfl
      walk_at "go"
      refine use_need_told (taken := (ps.take i).map (·.1)) (val_nm8 (ok.nm p hpm)) ⟨rfl, fun n => rfl⟩ (.inr ⟨kdI (ps.take i), view_lastK, by unfold kdI; rw [List.map_map, List.map_map]; rfl⟩) ?_
      rw [good_verdict (ok.nm p hpm) (ok.nb p hpm) hnew]
      walk_at "go"
      refine dput_last rfl rfl (by rw [line16]; simp [kdI]; omega) ?_
      rw [put_kdI, put1_new hnew, ← et]
      walk_at "go"
      exact ⟨_, _, rfl, rfl⟩
    · rintro env M' ⟨e3, e4, rfl, rfl⟩
      rw [List.length_map, List.take_length]
      walk_at "go"
      rw [view_lastK]
      have hkd : (kdI ps).length = ps.length := by unfold kdI; rw [List.length_map]
      have hkey : ∀ p ∈ kdI ps, ∃ k, p.1 = (Sum.inr k : Key) ∧ (k == Str.ofString "this_object") = false := fun p hp => by
        obtain ⟨q, hq2, rfl⟩ := List.mem_map.mp hp
        refine ⟨q.1, rfl, ?_⟩
        have h8 := (nms_nm _ (ok.nm q hq2)).2
        have h11 : (Str.ofString "this_object").length = 11 := by decide +kernel
        rw [beq_eq_false_iff_ne]
        intro e
        rw [e, h11] at h8
        omega
      refine ⟨⟨by omega, hkey⟩, ?_⟩
      refine use_Signals_init__ (M0 := M ++ [.dct (kdI ps)]) (ps := ps) ok ?_
      walk_at "go"
      have nc := fun n => noC_pD n (canon ps)
      refine mkEnd_i (by simp [noCelF, noCel, nc]) ?_
      walk_at "go"
      have ht : (M ++ [D.dct (kdI ps)]).take M.length = M := List.take_left' rfl
      refine .less (noC_sig _ _) ?_ ?_
      · rw [ht]; exact hM
      · rw [ht]; exact k
  rcases hrow with rfl | rfl
  · walk_at "go"
    exact main
  · walk_at "go"
    exact main

/-! Signals.__getitem__: 0 self, 1 field -/
abbrev p_Signals_getitem__ : List Str := ["self", "field"]
@[irreducible] def sp_Signals_getitem__ : DSp := fun ds M R RX => ∃ (t : PL) (s : Str), ds = [sig t, .str s] ∧ PairsOk t ∧ s ∈ NMS ∧ R (.int (getN t s)) M
theorem len_Signals_getitem__ : ∀ ds M R RX, sp_Signals_getitem__ ds M R RX → ds.length = p_Signals_getitem__.length := by
  unfold sp_Signals_getitem__; rintro ds M R RX ⟨_, _, rfl, _⟩; rfl
theorem use_Signals_getitem__ {t : PL} {s : Str} {M : Mt} {R RX} (h1 : PairsOk t) (h2 : s ∈ NMS) (k : R (.int (getN t s)) M) : sp_Signals_getitem__ [sig t, .str s] M R RX := by
  unfold sp_Signals_getitem__; exact ⟨t, s, rfl, h1, h2, k⟩
def w_Signals_getitem__ (RX : RXe) : WS :=
  (wSeq (wIfS (wNotT (wTru (wCall sp_is_name [] RX0 (wCons (wVar 1) wNil)))) (wRaise "InvalidName" ["value"] RX (wCons (wVar 1) wNil)) wSkip)
    (wRet (wGet2 (wCB cDictT (wCons (wFld "Signals" "told" (wVar 0)) wNil)) (wVar 1) (wC (.int 0)))))
theorem wp_Signals_getitem__ : ∀ ds M R RX, sp_Signals_getitem__ ds M R RX → M.all (cellOk M.length) = true → noCels M.length ds = true → w_Signals_getitem__ (fun nm fs _ M' => rxF M.length RX nm fs M') (fnEnds M.length R) (startE 2 ds) M := by
  unfold sp_Signals_getitem__; rintro ds M R RX ⟨t, s, rfl, ok, hs, k⟩ hM hds
  walk_at "go"
  refine use_is_name (val_nm8 hs) ?_
  have e1 : isNm (.str s) = true := (nms_nm _ hs).1
  rw [e1]
  walk_at "go"
  refine dictT_use (kp_map t) ?_
  rw [merge_kdI, mrg_nd ok.nd]
  walk_at "go"
  refine get2_use rfl rfl ?_
  rw [val_kdI]
  walk_at "go"
  exact .keep k
/-! Signals.__or__: 0 self, 1 other, 2 fields, 3 field, 4 number, 5 against -/
abbrev p_Signals_or__ : List Str := ["self", "other"]
theorem key_this {ps : PL} (ok : PairsOk ps) : ∀ p ∈ kdI ps, ∃ k, p.1 = (Sum.inr k : Key) ∧ (k == Str.ofString "this_object") = false := fun p hp => by
  obtain ⟨q, hq2, rfl⟩ := List.mem_map.mp hp
  refine ⟨q.1, rfl, ?_⟩
  have h8 := (nms_nm _ (ok.nm q hq2)).2
  have h11 : (Str.ofString "this_object").length = 11 := by decide +kernel
  rw [beq_eq_false_iff_ne]
  intro e
  rw [e, h11] at h8
  omega
theorem in_two {a b c : Int} {M : Mt} {R : D → Mt → Prop} (k : R (.bl (decide (a ≠ b ∧ a ≠ c))) M) : oIn true (.int a) (.tup [.int b, .int c]) M R := by
  have e : (!inV (.int a) [.int b, .int c]) = decide (a ≠ b ∧ a ≠ c) := by
    by_cases h1 : a = b <;> by_cases h2 : a = c <;> simp [inV, eqV, h1, h2] <;> omega
  have : oIn true (.int a) (.tup [.int b, .int c]) M R = R (.bl (!inV (.int a) [.int b, .int c])) M := by
    simp [oIn, viewD, seqD, flatD, flatDs]
  rw [this, e]; exact k
def clR (t1 t2 : PL) (M : Mt) (R : D → Mt → Prop) (RX : Str → List (Str × D) → Mt → Prop) : Prop := match clash t1 t2 with
  | some x => RX "FieldClash" [("other", .int x.2.2), ("one", .int x.2.1), ("field", .str x.1)] M
  | none => R (sig (canon (mrg (t1 ++ t2)))) M
@[irreducible] def sp_Signals_or__ : DSp := fun ds M R RX => ∃ (t1 t2 : PL), ds = [sig t1, sig t2] ∧ PairsOk t1 ∧ PairsOk t2 ∧ clR t1 t2 M R RX
theorem len_Signals_or__ : ∀ ds M R RX, sp_Signals_or__ ds M R RX → ds.length = p_Signals_or__.length := by
  unfold sp_Signals_or__; rintro ds M R RX ⟨_, _, rfl, _⟩; rfl
theorem use_Signals_or__ {t1 t2 : PL} {M : Mt} {R RX} (h1 : PairsOk t1) (h2 : PairsOk t2) (k : clR t1 t2 M R RX) : sp_Signals_or__ [sig t1, sig t2] M R RX := by
  unfold sp_Signals_or__; exact ⟨t1, t2, rfl, h1, h2, k⟩
def w_Signals_or__ (RX : RXe) : WS :=
  (wSeq (wFor (wIt (wFgt (wFld "Signals" "told" (wVar 0)))) (gT 2 (gsCons (gN 3) (gsCons (gN 4) gsNil))) (wSeq (wAsg (wSubO "Signals" sp_Signals_getitem__ RXn (wVar 1) (wVar 3)) (gN 5))
    (wIfS (wTest (wOp (oIn true) (wVar 5) (wTup (wCons (wC (.int 0)) (wCons (wVar 4) wNil))))) (wRaise "FieldClash" ["field", "one", "other"] RX (wCons (wVar 3) (wCons (wVar 4) (wCons (wVar 5) wNil)))) wSkip)))
    (wSeq (wAsg (wCB cDictT (wCons (wOp oCatP (wFld "Signals" "told" (wVar 0)) (wFld "Signals" "told" (wVar 1))) wNil)) (gN 2))
    (wRet (wMkS "Signals" "this_object" sp_Signals_init__ RXn 2))))
theorem wp_Signals_or__ : ∀ ds M R RX, sp_Signals_or__ ds M R RX → M.all (cellOk M.length) = true → noCels M.length ds = true → w_Signals_or__ (fun nm fs _ M' => rxF M.length RX nm fs M') (fnEnds M.length R) (startE 6 ds) M := by
  unfold sp_Signals_or__; rintro ds M R RX ⟨t1, t2, rfl, ok1, ok2, k⟩ hM hds
  walk_at "go"
  refine forL_inv (fun i env M' => ∃ (e3 e4 e5 : Option D), env = [some (sig t1), some (sig t2), none, e3, e4, e5] ∧ M' = M ∧ (t1.drop i).find? (bad t2) = t1.find? (bad t2)) ⟨none, none, none, rfl, rfl, rfl⟩ ?_ ?_
  · rintro i d2 env M' hd ⟨e3, e4, e5, rfl, rfl, hb⟩
    obtain ⟨p, hpi, rfl⟩ : ∃ p, t1[i]? = some p ∧ d2 = pD p := by
      rw [List.getElem?_map] at hd
      cases h : t1[i]? with
      | none => rw [h] at hd; cases hd
      | some p => rw [h] at hd; exact ⟨p, rfl, (Option.some.inj hd).symm⟩
    have hpm := List.mem_of_getElem? hpi
    obtain ⟨hil, hse⟩ := List.getElem?_eq_some_iff.mp hpi
    rw [List.drop_eq_getElem_cons hil, hse, List.find?_cons] at hb
    walk_at "go"
    refine use_Signals_getitem__ ok2 (ok1.nm p hpm) ?_
    walk_at "go"
    refine in_two ?_
    by_cases hbad : bad t2 p = true
    · have hb2 := of_decide_eq_true hbad
      rw [hbad] at hb
      unfold clR clash at k
      rw [← hb] at k
      simp only [Option.map_some] at k
      rw [decide_eq_true hb2]
      walk_at "go"
      exact .keep k
    · have hb2 : ¬ (getN t2 p.1 ≠ 0 ∧ getN t2 p.1 ≠ p.2) := fun z => hbad (decide_eq_true z)
      rw [Bool.not_eq_true] at hbad
      rw [hbad] at hb
      rw [decide_eq_false hb2]
      walk_at "go"
      exact ⟨_, _, _, rfl, rfl, hb⟩
  · rintro env M' ⟨e3, e4, e5, rfl, rfl, hb⟩
    rw [List.length_map, List.drop_length] at hb
    have hb : t1.find? (bad t2) = none := hb.symm
    unfold clR clash at k
    rw [hb] at k
    have l1 := ok_len ok1
    have l2 := ok_len ok2
    walk_at "go"
    refine catP_use (by rw [line16, List.length_map, List.length_map]; omega) ?_
    walk_at "go"
    rw [← List.map_append]
    refine dictT_use (kp_map _) ?_
    rw [merge_kdI]
    have ok3 := mrg_cat ok1 ok2
    have l3 := ok_len ok3
    walk_at "go"
    have hkd : (kdI (mrg (t1 ++ t2))).length = (mrg (t1 ++ t2)).length := by unfold kdI; rw [List.length_map]
    · exact ⟨by omega, key_this ok3⟩
    refine use_Signals_init__ ok3 ?_
    walk_at "go"
    have nc := fun n => noC_pD n (canon (mrg (t1 ++ t2)))
    refine mkEnd_i (by simp [noCelF, noCel, nc]) ?_
    walk_at "go"
    simp only [Option.map_none] at k
    exact .keep k

/-! need_union: 0 parts, 1 lesser, 2 name, 3 e -/
abbrev p_need_union : List Str := ["parts", "lesser", "name"]
/-! ### what unions do to the numbers -/
theorem getN_b {t : PL} (ok : PairsOk t) (s : Str) : 0 ≤ getN t s ∧ getN t s ≤ 1000000000 := by
  unfold getN
  cases h : t.lookup s with
  | none => exact ⟨by decide, by decide⟩
  | some i => exact ok.nb _ ((look_nd ok.nd).mp h)
theorem lk_map (acc : PL) (n : Str) (x : Int) (s : Str) : (acc.map fun q => if q.1 = n then (q.1, x) else q).lookup s = if s = n then (acc.lookup s).map (fun _ => x) else acc.lookup s := by
  induction acc with
  | nil => simp
  | cons a r ih =>
    obtain ⟨a1, a2⟩ := a
    by_cases e : a1 = n
    · subst e
      by_cases e2 : s = a1
      · subst e2; simp [List.lookup_cons]
      · have e3 : (s == a1) = false := by simpa using e2
        simp only [List.map_cons, if_true, List.lookup_cons, e3, ih, if_neg e2]
    · by_cases e2 : s = a1
      · subst e2
        simp [List.lookup_cons, e]
      · have e3 : (s == a1) = false := by simpa using e2
        simp only [List.map_cons, if_neg e, List.lookup_cons, e3, ih]
theorem lk_none {acc : PL} {s : Str} (h : s ∉ acc.map (·.1)) : acc.lookup s = none := by
  rw [List.lookup_eq_none_iff]
  intro q hq
  have : q.1 ≠ s := fun z => h (List.mem_map.mpr ⟨q, hq, z⟩)
  simpa using Ne.symm this
theorem lk_app (a b : PL) (s : Str) : (a ++ b).lookup s = (a.lookup s).or (b.lookup s) := by
  induction a with
  | nil => simp
  | cons x r ih =>
    obtain ⟨x1, x2⟩ := x
    by_cases e : s = x1
    · subst e; simp [List.lookup_cons]
    · have e3 : (s == x1) = false := by simpa using e
      simp only [List.cons_append, List.lookup_cons, e3, ih]
theorem getN_put1 (acc : PL) (p : Str × Int) (s : Str) : getN (put1 acc p) s = if s = p.1 then p.2 else getN acc s := by
  unfold put1 getN
  by_cases h : acc.any (fun q => decide (q.1 = p.1)) = true
  · rw [if_pos h, lk_map]
    by_cases e : s = p.1
    · rw [if_pos e, if_pos e]
      obtain ⟨q, hq, he⟩ := List.any_eq_true.mp h
      have he := of_decide_eq_true he
      cases hl : acc.lookup s with
      | none =>
        rw [List.lookup_eq_none_iff] at hl
        have := hl q hq
        rw [he, e] at this
        simp at this
      | some i => rfl
    · rw [if_neg e, if_neg e]
  · rw [if_neg h, lk_app]
    have hno : p.1 ∉ acc.map (·.1) := fun z => by
      obtain ⟨q, h1, h2⟩ := List.mem_map.mp z
      exact h (List.any_eq_true.mpr ⟨q, h1, decide_eq_true h2⟩)
    obtain ⟨p1, p2⟩ := p
    by_cases e : s = p1
    · subst e
      rw [if_pos rfl, lk_none hno]; simp [List.lookup_cons]
    · have e3 : (s == p1) = false := by simpa using e
      rw [if_neg e]
      simp [List.lookup_cons, e3]
theorem getN_cons (a : Str × Int) (r : PL) (s : Str) : getN (a :: r) s = if s = a.1 then a.2 else getN r s := by
  obtain ⟨a1, a2⟩ := a
  unfold getN
  by_cases e : s = a1
  · subst e; simp [List.lookup_cons]
  · have e3 : (s == a1) = false := by simpa using e
    rw [if_neg e]; simp [List.lookup_cons, e3]
theorem getN_not {l : PL} {s : Str} (h : s ∉ l.map (·.1)) : getN l s = 0 := by unfold getN; rw [lk_none h]; rfl
theorem getN_ne {l : PL} (nd : (l.map (·.1)).Nodup) {s : Str} (h : getN l s ≠ 0) : (s, getN l s) ∈ l := by
  unfold getN at h ⊢
  cases e : l.lookup s with
  | none => rw [e] at h; exact absurd rfl h
  | some i => exact (look_nd nd).mp e
theorem canon_ext {a b : PL} (ha : PairsOk a) (hb : PairsOk b) (h : ∀ s, getN a s = getN b s) : canon a = canon b := by
  have nd : ∀ {l : PL}, PairsOk l → (canon l).Nodup := fun {l} hl => List.Pairwise.of_map (·.1) (fun a b h e => h (by rw [e])) (canon_nd hl.nd)
  have one : ∀ {a b : PL}, PairsOk a → PairsOk b → (∀ s, getN a s = getN b s) → ∀ p, p ∈ canon a → p ∈ canon b := fun {a b} ha hb h p hp => by
    obtain ⟨h1, h2⟩ := canon_mem.mp hp
    have e := getN_mem ha.nd h1
    rw [h] at e
    refine canon_mem.mpr ⟨?_, h2⟩
    have := getN_ne hb.nd (s := p.1) (by rw [e]; exact h2)
    rw [e] at this
    exact this
  exact asc_uniq (canon_asc a) (canon_asc b) ((List.perm_ext_iff_of_nodup (nd ha) (nd hb)).mpr fun p => ⟨one ha hb h p, one hb ha (fun s => (h s).symm) p⟩)
theorem canon_put {ns : PL} {p : Str × Int} (ok : PairsOk ns) (h1 : p.1 ∈ NMS) (h2 : 0 ≤ p.2 ∧ p.2 ≤ 1000000000) : canon (put1 (canon ns) p) = canon (put1 ns p) :=
  canon_ext (put1_ok (canon_ok ok) h1 h2) (put1_ok ok h1 h2) fun s => by rw [getN_put1, getN_put1, getN_canon ok.nd]
/-- a number is taken over unless it is 0 -/
def stp (ns : PL) (p : Str × Int) : PL := put1 ns (p.1, if p.2 ≠ 0 then p.2 else getN ns p.1)
theorem stp_ok {ns : PL} {p : Str × Int} (ok : PairsOk ns) (h1 : p.1 ∈ NMS) (h2 : 0 ≤ p.2 ∧ p.2 ≤ 1000000000) : PairsOk (stp ns p) := put1_ok ok h1 (by
  show 0 ≤ (if p.2 ≠ 0 then p.2 else getN ns p.1) ∧ (if p.2 ≠ 0 then p.2 else getN ns p.1) ≤ 1000000000
  split
  · exact h2
  · exact getN_b ok p.1)
theorem getN_stp (ns : PL) (p : Str × Int) (s : Str) : getN (stp ns p) s = if s = p.1 ∧ p.2 ≠ 0 then p.2 else getN ns s := by
  unfold stp
  rw [getN_put1]
  by_cases e : s = p.1
  · subst e
    by_cases h : p.2 ≠ 0
    · rw [if_pos rfl, if_pos h, if_pos ⟨rfl, h⟩]
    · rw [if_pos rfl, if_neg h, if_neg fun z => h z.2]
  · rw [if_neg e, if_neg fun z => e z.1]
theorem fold_stp : ∀ {ps ns : PL}, PairsOk ns → PairsOk ps → PairsOk (ps.foldl stp ns) ∧ ∀ s, getN (ps.foldl stp ns) s = if getN ps s ≠ 0 then getN ps s else getN ns s
  | [], ns, ok, _ => ⟨ok, fun s => by
    rw [if_neg]
    · rfl
    · exact fun z => z rfl⟩
  | a :: r, ns, ok, okp => by
    have okr : PairsOk r := ⟨(List.nodup_cons.mp (by simpa using okp.nd)).2, fun q hq => okp.nm q (List.mem_cons_of_mem _ hq), fun q hq => okp.nb q (List.mem_cons_of_mem _ hq)⟩
    have ha : a.1 ∉ r.map (·.1) := (List.nodup_cons.mp (by simpa using okp.nd)).1
    have ok2 := stp_ok ok (okp.nm a List.mem_cons_self) (okp.nb a List.mem_cons_self)
    obtain ⟨h1, h2⟩ := fold_stp ok2 okr
    refine ⟨h1, fun s => ?_⟩
    rw [List.foldl_cons, h2, getN_stp, getN_cons]
    by_cases e : s = a.1
    · subst e
      rw [getN_not ha, if_neg (fun z => z rfl), if_pos rfl]
      by_cases h : a.2 ≠ 0
      · rw [if_pos ⟨rfl, h⟩, if_pos h]
      · rw [if_neg fun z => h z.2, if_neg h]
    · have e2 : ¬ (s = a.1 ∧ a.2 ≠ 0) := fun z => e z.1
      rw [if_neg e2, if_neg e]
theorem fold_put1 : ∀ {l acc : PL}, (l.map (·.1)).Nodup → ∀ s, getN (l.foldl put1 acc) s = if s ∈ l.map (·.1) then getN l s else getN acc s
  | [], acc, _, s => by simp
  | a :: r, acc, nd, s => by
    obtain ⟨n1, n2⟩ := List.nodup_cons.mp (by simpa using nd : (a.1 :: r.map (·.1)).Nodup)
    rw [List.foldl_cons, fold_put1 n2, getN_put1, getN_cons, List.map_cons]
    by_cases h : s ∈ r.map (·.1)
    · have e : s ≠ a.1 := fun z => n1 (z ▸ h)
      rw [if_pos h, if_pos (List.mem_cons_of_mem _ h), if_neg e]
    · by_cases e : s = a.1
      · rw [if_neg h, if_pos e, if_pos (by rw [e]; exact List.mem_cons_self), if_pos e]
      · rw [if_neg h, if_neg e, if_neg]
        intro z
        rcases List.mem_cons.mp z with z | z
        · exact e z
        · exact h z
/-- both ways of taking over numbers tell the same -/
theorem canon_over {ns ps : PL} (ok : PairsOk ns) (okp : PairsOk ps) : canon (mrg (canon ns ++ canon ps)) = canon (ps.foldl stp ns) := by
  have okc := canon_ok ok
  have okd := canon_ok okp
  obtain ⟨h1, h2⟩ := fold_stp ok okp
  refine canon_ext (mrg_cat okc okd) h1 fun s => ?_
  have e : mrg (canon ns ++ canon ps) = (canon ps).foldl put1 (canon ns) := by
    have := mrg_nd okc.nd
    unfold mrg at this ⊢
    rw [List.foldl_append, this]
  rw [e, fold_put1 okd.nd, h2, getN_canon okp.nd, getN_canon ok.nd]
  by_cases h : getN ps s ≠ 0
  · rw [if_pos h, if_pos]
    exact List.mem_map.mpr ⟨_, canon_mem.mpr ⟨getN_ne okp.nd h, h⟩, rfl⟩
  · rw [if_neg h, if_neg]
    intro z
    obtain ⟨p, hp, rfl⟩ := List.mem_map.mp z
    obtain ⟨g1, g2⟩ := canon_mem.mp hp
    rw [getN_mem okp.nd g1] at h
    exact h g2

/-! ### parts with names -/
abbrev Parts := List (Str × PL)
def kdS (ps : Parts) : List (Key × D) := ps.map fun p => (Sum.inr p.1, sig p.2)
def getT (ps : Parts) (s : Str) : PL := (ps.lookup s).getD []
structure PartsOk (ps : Parts) : Prop where
  nd : (ps.map (·.1)).Nodup
  ok : ∀ p ∈ ps, PairsOk p.2
  len : ps.length ≤ 7
theorem lookP_nd : ∀ {ps : Parts}, (ps.map (·.1)).Nodup → ∀ {s : Str} {t : PL}, ps.lookup s = some t ↔ (s, t) ∈ ps
  | [], _, s, t => by simp
  | (a, x) :: r, nd, s, t => by
    obtain ⟨n1, n2⟩ := List.nodup_cons.mp (by simpa using nd : (a :: r.map (·.1)).Nodup)
    by_cases e : s = a
    · subst e
      simp only [List.lookup_cons, beq_self_eq_true, List.mem_cons, Prod.mk.injEq, true_and, Option.some.injEq]
      constructor
      · intro h; exact .inl h.symm
      · rintro (h | h)
        · exact h.symm
        · exact absurd (List.mem_map.mpr ⟨_, h, rfl⟩) n1
    · have e3 : (s == a) = false := by simpa using e
      rw [List.lookup_cons, e3]
      simp only [List.mem_cons, Prod.mk.injEq, e, false_and, false_or]
      exact lookP_nd n2
theorem getT_mem {ps : Parts} (nd : (ps.map (·.1)).Nodup) {p : Str × PL} (h : p ∈ ps) : getT ps p.1 = p.2 := by
  unfold getT
  rw [(lookP_nd nd).mpr h]; rfl
theorem getT_in {ps : Parts} (nd : (ps.map (·.1)).Nodup) {s : Str} (h : s ∈ ps.map (·.1)) : (s, getT ps s) ∈ ps := by
  obtain ⟨p, hp, rfl⟩ := List.mem_map.mp h
  rw [getT_mem nd hp]; exact hp
theorem getT_ok {ps : Parts} (ok : PartsOk ps) {s : Str} (h : s ∈ ps.map (·.1)) : PairsOk (getT ps s) := ok.ok _ (getT_in ok.nd h)
theorem val_kdS {ps : Parts} {s : Str} (h : s ∈ ps.map (·.1)) : valD (kdS ps) (Sum.inr s) = some (sig (getT ps s)) := by
  induction ps with
  | nil => simp at h
  | cons a r ih =>
    obtain ⟨a1, a2⟩ := a
    by_cases e : s = a1
    · subst e
      simp [kdS, valD, getT, List.lookup_cons]
    · have e3 : (s == a1) = false := by simpa using e
      have h' : s ∈ r.map (·.1) := by
        rcases List.mem_cons.mp (by simpa using h : s ∈ a1 :: r.map (·.1)) with z | z
        · exact absurd z e
        · exact z
      have := ih h'
      have ne : decide ((Sum.inr a1 : Key) = Sum.inr s) = false := decide_eq_false fun z => e (by cases z; rfl)
      simp only [kdS, List.map_cons, valD] at this ⊢
      rw [List.find?_cons, ne]
      show Option.map _ (List.find? _ (List.map _ r)) = _
      rw [this]
      simp [getT, List.lookup_cons, e3]
theorem keys_kdS (ps : Parts) : ((kdS ps).map fun p => kD p.1) = (ps.map (·.1)).map D.str := by
  unfold kdS
  rw [List.map_map, List.map_map]; rfl
/-- the names in order -/
def srt (l : List Str) : List Str := (canon (l.map fun s => (s, (1 : Int)))).map (·.1)
theorem srt_of {l ns : List Str} (nd : l.Nodup) (hp : ns.Perm l) (hs : sortedS ns = true) : ns = srt l := by
  have e1 : (l.map fun s => (s, (1 : Int))).map (·.1) = l := by rw [List.map_map]; exact (List.map_congr_left fun _ _ => rfl).trans (List.map_id l)
  obtain ⟨a1, a2⟩ := asc_names (ps := l.map fun s => (s, (1 : Int))) (by rw [e1]; exact nd) (by rw [e1]; exact hp) hs
  have e2 : (l.map fun s => (s, (1 : Int))).filter nz = l.map fun s => (s, (1 : Int)) := List.filter_eq_self.mpr fun p hp => by
    obtain ⟨s, _, rfl⟩ := List.mem_map.mp hp
    rfl
  have := canon_of (ps := l.map fun s => (s, (1 : Int))) (by rw [e2]; exact a1) a2
  unfold srt
  rw [← this, List.map_map]
  exact ((List.map_congr_left fun _ _ => rfl).trans (List.map_id ns)).symm
theorem srt_perm (l : List Str) : (srt l).Perm l := by
  unfold srt
  have h := (canon_perm (l.map fun s => (s, (1 : Int)))).map (·.1)
  rw [List.filter_eq_self.mpr fun p hp => by obtain ⟨s, _, rfl⟩ := List.mem_map.mp hp; rfl] at h
  rw [List.map_map] at h
  exact h.trans (by rw [show ((·.1) ∘ fun s : Str => (s, (1 : Int))) = id from rfl, List.map_id])
theorem srt_eq {l m : List Str} (h : l.Perm m) : srt l = srt m := by
  unfold srt
  rw [canon_of (ps := m.map fun s => (s, (1 : Int))) (qs := canon (l.map fun s => (s, (1 : Int)))) ((canon_perm _).trans ((h.map _).filter nz)) (canon_asc _)]
/-- the first name that clashes with a lesser one -/
def fstC (c : Str → Str → Bool) : List Str → List Str → Option (Str × Str)
  | _, [] => none
  | seen, n :: r => match seen.find? (fun l => c l n) with
    | some l => some (l, n)
    | none => fstC c (seen ++ [n]) r
theorem fstC_cons (c : Str → Str → Bool) (seen : List Str) (n : Str) (r : List Str) : fstC c seen (n :: r) = match seen.find? (fun l => c l n) with
    | some l => some (l, n)
    | none => fstC c (seen ++ [n]) r := rfl
def cl (ps : Parts) (l n : Str) : Bool := (clash (getT ps l) (getT ps n)).isSome
def uni (ps : Parts) (ns : List Str) : PL := ns.foldl (fun F s => canon (mrg (F ++ getT ps s))) []
theorem uni_snoc (ps : Parts) (ns : List Str) (s : Str) : uni ps (ns ++ [s]) = canon (mrg (uni ps ns ++ getT ps s)) := by simp [uni]
theorem uni_ok {ps : Parts} (ok : PartsOk ps) : ∀ {ns : List Str}, (∀ s ∈ ns, s ∈ ps.map (·.1)) → PairsOk (uni ps ns) := fun {ns} h => by
  have : ∀ (ns : List Str) (F : PL), (∀ s ∈ ns, s ∈ ps.map (·.1)) → PairsOk F → PairsOk (ns.foldl (fun F s => canon (mrg (F ++ getT ps s))) F) := by
    intro ns
    induction ns with
    | nil => exact fun _ _ h => h
    | cons a r ih => exact fun F h hF => ih _ (fun s hs => h s (List.mem_cons_of_mem _ hs)) (canon_ok (mrg_cat hF (getT_ok ok (h a List.mem_cons_self))))
  exact this ns [] h ⟨List.nodup_nil, fun p hp => (nomatch hp), fun p hp => (nomatch hp)⟩
theorem put1_mem {acc : PL} {p q : Str × Int} (h : q ∈ put1 acc p) : q = p ∨ q ∈ acc := by
  unfold put1 at h
  split at h
  · obtain ⟨x, hx, e⟩ := List.mem_map.mp h
    split at e
    · rename_i e1
      left
      rw [← e]
      exact Prod.ext e1 rfl
    · right; rw [← e]; exact hx
  · rcases List.mem_append.mp h with h | h
    · exact .inr h
    · exact .inl (by simpa using h)
theorem mrg_mem {l : PL} {q : Str × Int} (h : q ∈ mrg l) : q ∈ l := by
  have : ∀ (l acc : PL), q ∈ l.foldl put1 acc → q ∈ l ∨ q ∈ acc := by
    intro l
    induction l with
    | nil => exact fun _ h => .inr h
    | cons a r ih =>
      intro acc h
      rcases ih _ h with h | h
      · exact .inl (List.mem_cons_of_mem _ h)
      · rcases put1_mem h with h | h
        · exact .inl (by rw [h]; exact List.mem_cons_self)
        · exact .inr h
  rcases this l [] h with h | h
  · exact h
  · cases h
theorem uni_mem {ps : Parts} {p : Str × Int} : ∀ {ns : List Str}, p ∈ uni ps ns → ∃ s ∈ ns, p ∈ getT ps s := by
  intro ns
  have : ∀ (ns : List Str) (F : PL), p ∈ ns.foldl (fun F s => canon (mrg (F ++ getT ps s))) F → p ∈ F ∨ ∃ s ∈ ns, p ∈ getT ps s := by
    intro ns
    induction ns with
    | nil => exact fun _ h => .inl h
    | cons a r ih =>
      intro F h
      rcases ih _ h with h | ⟨s, hs, h⟩
      · rcases List.mem_append.mp (mrg_mem (canon_mem.mp h).1) with h | h
        · exact .inl h
        · exact .inr ⟨a, List.mem_cons_self, h⟩
      · exact .inr ⟨s, List.mem_cons_of_mem _ hs, h⟩
  intro h
  rcases this ns [] h with h | h
  · cases h
  · exact h
/-- what is united of lesser names clashes with none that they do not clash with -/
theorem uni_none {ps : Parts} {ns : List Str} {n : Str} (h : ns.find? (fun l => cl ps l n) = none) : clash (uni ps ns) (getT ps n) = none := by
  cases e : clash (uni ps ns) (getT ps n) with
  | none => rfl
  | some x =>
    exfalso
    unfold clash at e
    obtain ⟨p, hp, _⟩ := Option.map_eq_some_iff.mp e
    have hb := List.find?_some hp
    obtain ⟨s, hs, hm⟩ := uni_mem (List.mem_of_find?_eq_some hp)
    have := List.find?_eq_none.mp h s hs
    apply this
    unfold cl clash
    rw [Option.isSome_map, List.find?_isSome]
    exact ⟨p, hm, hb⟩
@[irreducible] def sp_need_union : DSp := fun ds M R RX => ∃ (ps : Parts) (a b : Str), ds = [.dct (kdS ps), .str a, .str b] ∧ PartsOk ps ∧ a ∈ ps.map (·.1) ∧ b ∈ ps.map (·.1) ∧
  (cl ps a b = true → RX "Clash" [("name", .str b), ("lesser", .str a)] M) ∧ (cl ps a b = false → ∀ d : D, R d M)
theorem len_need_union : ∀ ds M R RX, sp_need_union ds M R RX → ds.length = p_need_union.length := by
  unfold sp_need_union; rintro ds M R RX ⟨_, _, _, rfl, _⟩; rfl
theorem use_need_union {ps : Parts} {a b : Str} {M : Mt} {R RX} (h1 : PartsOk ps) (h2 : a ∈ ps.map (·.1)) (h3 : b ∈ ps.map (·.1)) (k1 : cl ps a b = true → RX "Clash" [("name", .str b), ("lesser", .str a)] M) (k2 : cl ps a b = false → ∀ d : D, R d M) : sp_need_union [.dct (kdS ps), .str a, .str b] M R RX := by
  unfold sp_need_union; exact ⟨ps, a, b, rfl, h1, h2, h3, k1, k2⟩
def w_need_union (RX : RXe) : WS :=
  (wTryFrom ["FieldClash"] (fun _ => true) 3 (fun RX => (wRet (wOpO "Signals" sp_Signals_or__ RX (wOp oDGet (wVar 0) (wVar 1)) (wOp oDGet (wVar 0) (wVar 2))))) "Clash" ["lesser", "name"] (wCons (wVar 1) (wCons (wVar 2) wNil)) RX)
theorem wp_need_union : ∀ ds M R RX, sp_need_union ds M R RX → M.all (cellOk M.length) = true → noCels M.length ds = true → w_need_union (fun nm fs _ M' => rxF M.length RX nm fs M') (fnEnds M.length R) (startE 4 ds) M := by
  unfold sp_need_union; rintro ds M R RX ⟨ps, a, b, rfl, ok, ha, hb, k1, k2⟩ hM hds
  walk_at "go"
  refine get_use rfl rfl (val_kdS ha) ?_
  walk_at "go"
  refine get_use rfl rfl (val_kdS hb) ?_
  walk_at "go"
  refine use_Signals_or__ (getT_ok ok ha) (getT_ok ok hb) ?_
  unfold clR
  cases h : clash (getT ps a) (getT ps b) with
  | some x =>
    have hc : cl ps a b = true := by unfold cl; rw [h]; rfl
    refine ⟨⟨by decide +kernel⟩, ⟨by simp [startE]⟩, ?_⟩
    walk_at "go"
    exact .keep (k1 hc)
  | none =>
    have hc : cl ps a b = false := by unfold cl; rw [h]; rfl
    walk_at "go"
    exact .keep (k2 hc _)
/-! merged: 0 parts, 1 found, 2 names, 3 at, 4 name, 5 lesser -/
abbrev p_merged : List Str := ["parts"]
def resM (ps : Parts) (M : Mt) (R : D → Mt → Prop) (RX : Str → List (Str × D) → Mt → Prop) : Prop := match fstC (cl ps) [] (srt (ps.map (·.1))) with
  | some x => RX "Clash" [("name", .str x.2), ("lesser", .str x.1)] M
  | none => R (sig (uni ps (srt (ps.map (·.1))))) M
@[irreducible] def sp_merged : DSp := fun ds M R RX => ∃ ps : Parts, ds = [.dct (kdS ps)] ∧ PartsOk ps ∧ resM ps M R RX
theorem len_merged : ∀ ds M R RX, sp_merged ds M R RX → ds.length = p_merged.length := by
  unfold sp_merged; rintro ds M R RX ⟨_, rfl, _⟩; rfl
theorem use_merged {ps : Parts} {M : Mt} {R RX} (h1 : PartsOk ps) (k : resM ps M R RX) : sp_merged [.dct (kdS ps)] M R RX := by
  unfold sp_merged; exact ⟨ps, rfl, h1, k⟩
def w_merged (RX : RXe) : WS :=
  (wSeq (wAsg (wMkKw "Signals" sp_Signals_init__ RX [] wNil) (gN 1))
    (wSeq (wAsg (wCB cSortS (wCons (wCB (cListA false) (wCons (wVar 0) wNil)) wNil)) (gN 2))
    (wSeq (wFor (wEnumerate (wCons (wVar 2) wNil)) (gT 2 (gsCons (gN 3) (gsCons (gN 4) gsNil))) (wSeq (wFor (wIt (wSl (wVar 2) wNoP (wP (wVar 3)))) (gN 5) (wExp (wCallX sp_need_union [] RX (wCons (wVar 0) (wCons (wVar 5) (wCons (wVar 4) wNil))))))
    (wAsg (wOpO "Signals" sp_Signals_or__ RX (wVar 1) (wOp oDGet (wVar 0) (wVar 4))) (gN 1))))
    (wRet (wVar 1)))))
theorem ok_nil : PairsOk [] := ⟨List.nodup_nil, (fun p hp => nomatch hp), (fun p hp => nomatch hp)⟩
theorem canon_nil : canon [] = [] := by decide +kernel
theorem wp_merged : ∀ ds M R RX, sp_merged ds M R RX → M.all (cellOk M.length) = true → noCels M.length ds = true → w_merged (fun nm fs _ M' => rxF M.length RX nm fs M') (fnEnds M.length R) (startE 6 ds) M := by
  unfold sp_merged; rintro ds M R RX ⟨ps, rfl, ok, k⟩ hM hds
  have hl := ok.len
  unfold resM at k
  unfold w_merged
  refine seq_cut (fun env M' => env = [some (.dct (kdS ps)), some (sig []), none, none, none, none] ∧ M' = M) ?_ ?_
  · intro K hK
    walk_at "go"
    refine use_Signals_init__ (ps := []) ok_nil ?_
    rw [canon_nil]
    refine ⟨rfl, mkEnd_i rfl ?_⟩
    walk_at "go"
    exact hK _ _ ⟨rfl, rfl⟩
  rintro env M' ⟨rfl, eM⟩
  rw [eM]
  clear eM M'
  refine seq_cut (fun env M' => ∃ ns : List Str, env = [some (.dct (kdS ps)), some (sig []), some (.lst (ns.map D.str)), none, none, none] ∧ M' = M ∧ ns = srt (ps.map (·.1))) ?_ ?_
  · intro K hK
    walk_at "go"
    rw [keys_kdS, strsD_map]
    have hl2 : (ps.map (·.1)).length ≤ 7 := by rw [List.length_map]; exact hl
    generalize hq : ps.map (·.1) = q at *
    walk_at "go"
    rename_i ns hp hs
    exact hK _ _ ⟨ns, rfl, rfl, srt_of (by rw [← hq]; exact ok.nd) hp hs⟩
  rintro env M' ⟨ns, rfl, eM, hns⟩
  rw [eM]
  clear eM M'
  have hin : ∀ s ∈ ns, s ∈ ps.map (·.1) := fun s hs => (srt_perm _).subset (hns ▸ hs)
  rw [← hns] at k
  refine seq_cut (fun env M' => ∃ e3 e4 e5, env = [some (.dct (kdS ps)), some (sig (uni ps ns)), some (.lst (ns.map D.str)), e3, e4, e5] ∧ M' = M ∧ fstC (cl ps) [] ns = none) ?_ ?_
  · intro K hK
    walk_at "go"
    refine forL_inv (fun i env M' => ∃ e3 e4 e5, env = [some (.dct (kdS ps)), some (sig (uni ps (ns.take i))), some (.lst (ns.map D.str)), e3, e4, e5] ∧ M' = M ∧ fstC (cl ps) (ns.take i) (ns.drop i) = fstC (cl ps) [] ns) ⟨none, none, none, rfl, rfl, rfl⟩ ?_ ?_
    · rintro i d env M' hd ⟨e3, e4, e5, rfl, eM, hb⟩
      rw [eM]
      clear eM M'
      obtain ⟨y, hy, rfl⟩ := enumD_get _ _ _ _ hd
      obtain ⟨n, hn, rfl⟩ : ∃ s, ns[i]? = some s ∧ y = .str s := by
        rw [List.getElem?_map] at hy
        cases h : ns[i]? with
        | none => rw [h] at hy; cases hy
        | some s => rw [h] at hy; exact ⟨s, rfl, (Option.some.inj hy).symm⟩
      obtain ⟨hil, hse⟩ := List.getElem?_eq_some_iff.mp hn
      have hnp := hin n (List.mem_of_getElem? hn)
      rw [List.drop_eq_getElem_cons hil, hse, fstC_cons] at hb
      have et : ns.take (i + 1) = ns.take i ++ [n] := by rw [List.take_add_one, hn]; rfl
      walk_at "go"
      rw [show ((0 + i : Nat) : Int) = (i : Int) from by omega, cut_take, ← List.map_take]
      have hti : ∀ s ∈ ns.take i, s ∈ ps.map (·.1) := fun s hs => hin s (List.mem_of_mem_take hs)
      generalize hF : uni ps (ns.take i) = F at *
      have okF : PairsOk F := by rw [← hF]; exact uni_ok ok hti
      have hno := uni_none (ps := ps) (ns := ns.take i) (n := n)
      rw [hF] at hno
      generalize ns.take i = seen at *
      refine forL_inv (fun j env M' => ∃ e5, env = [some (.dct (kdS ps)), some (sig F), some (.lst (ns.map D.str)), some (.int (i : Int)), some (.str n), e5] ∧ M' = M ∧ (seen.drop j).find? (fun l => cl ps l n) = seen.find? (fun l => cl ps l n)) ⟨_, by first | rfl | simp, rfl, rfl⟩ ?_ ?_
      · rintro j d env M' hd ⟨e5, rfl, eM, hb2⟩
        rw [eM]
        clear eM M'
        obtain ⟨l, hl2, rfl⟩ : ∃ s, seen[j]? = some s ∧ d = .str s := by
          rw [List.getElem?_map] at hd
          cases h : seen[j]? with
          | none => rw [h] at hd; cases hd
          | some s => rw [h] at hd; exact ⟨s, rfl, (Option.some.inj hd).symm⟩
        obtain ⟨hjl, hse2⟩ := List.getElem?_eq_some_iff.mp hl2
        rw [List.drop_eq_getElem_cons hjl, hse2, List.find?_cons] at hb2
        walk_at "go"
        refine use_need_union ok (hti l (List.mem_of_getElem? hl2)) hnp (fun hc => ?_) fun hc d => ?_
        · rw [hc] at hb2
          rw [← hb2] at hb
          rw [← hb] at k
          exact .keep k
        · rw [hc] at hb2
          walk_at "go"
          exact ⟨_, rfl, rfl, hb2⟩
      · rintro env M' ⟨e5, rfl, eM, hb2⟩
        rw [eM]
        clear eM M'
        rw [List.length_map, List.drop_length] at hb2
        rw [← hb2] at hb
        walk_at "go"
        refine get_use rfl rfl (val_kdS hnp) ?_
        walk_at "go"
        refine use_Signals_or__ okF (getT_ok ok hnp) ?_
        unfold clR
        rw [hno hb2.symm]
        walk_at "go"
        exact ⟨_, _, _, by rw [et, uni_snoc, hF]; rfl, rfl, by rw [et]; exact hb⟩
    · rintro env M' ⟨e3, e4, e5, rfl, eM, hb⟩
      rw [enumD_len, List.length_map, List.drop_length, List.take_length] at hb
      rw [enumD_len, List.length_map, List.take_length]
      exact hK _ _ ⟨_, _, _, rfl, eM, hb.symm⟩
  rintro env M' ⟨e3, e4, e5, rfl, eM, hb⟩
  rw [eM]
  clear eM M'
  rw [hb] at k
  walk_at "go"
  exact .keep k

/-! _law_pen: 0 _law_script -/
abbrev p_law_pen : List Str := ["_law_script"]
@[irreducible] def sp_law_pen : DSp := fun ds M R _ => ∃ ns : List Int, ds = [.rol (ns.map D.int)] ∧ M = [] ∧ ∀ b, PenOk 0 b → R (.cel 0) [b]
theorem len_law_pen : ∀ ds M R RX, sp_law_pen ds M R RX → ds.length = p_law_pen.length := by
  unfold sp_law_pen; rintro ds M R RX ⟨ns, rfl, _⟩; rfl
theorem use_law_pen {ns : List Int} {R RX} (k : ∀ b, PenOk 0 b → R (.cel 0) [b]) : sp_law_pen [.rol (ns.map D.int)] [] R RX := by
  unfold sp_law_pen; exact ⟨ns, rfl, rfl, k⟩
def w_law_pen : WS :=
  (wRet (wLstM (wCons (wCB (cListA false) (wCons (wSl (wVar 0) wNoP (wP (wC (.int 60)))) wNil)) (wCons (wC (.int 0)) (wCons (wC (.int 0)) wNil)))))
theorem wp_law_pen : ∀ ds M R RX, sp_law_pen ds M R RX → M.all (cellOk M.length) = true → noCels M.length ds = true → w_law_pen (fnEnds M.length R) (startE 1 ds) M := by
  unfold sp_law_pen; rintro ds M R RX ⟨ns, rfl, rfl, k⟩ _ _
  walk_at "go"
  have e : L3.cutD (ns.map D.int) none (some 60) = ((ns.drop (HT.sIx ns.length 0 none)).take (HT.sIx ns.length ns.length (some 60) - HT.sIx ns.length 0 none)).map D.int := by
    unfold L3.cutD; simp only [List.length_map, List.map_drop, List.map_take]
  refine .keep ?_
  rw [e]
  exact k _ ⟨_, 0, 0, rfl, by decide, by decide, by decide⟩
/-! _law_draw: 0 _law_pen_here, 1 _law_many, 2 _law_at, 3 _law_cell, 4 _law_mixed, 5 _law_digit, 6 _law_great -/
abbrev p_law_draw : List Str := ["_law_pen_here", "_law_many"]
@[irreducible] def sp_law_draw : DSp := fun ds M R _ => ∃ (many n : Int) (b : D) (M2 : Mt), ds = [.cel 0, .int many] ∧ M = b :: M2 ∧ PenOk n b ∧ n ≤ 1000000 ∧ 1 ≤ many ∧ many < 1073741824 ∧
  ∀ (d : Int) (b' : D), 0 ≤ d → d < many → PenOk (n + 1) b' → R (.int d) (b' :: M2)
theorem len_law_draw : ∀ ds M R RX, sp_law_draw ds M R RX → ds.length = p_law_draw.length := by
  unfold sp_law_draw; rintro ds M R RX ⟨_, _, _, _, rfl, _⟩; rfl
theorem use_law_draw {b : D} {many n : Int} {M2 : Mt} {R RX} (hb : PenOk n b) (hn : n ≤ 1000000) (h1 : 1 ≤ many) (h2 : many < 1073741824)
    (k : ∀ (d : Int) (b' : D), 0 ≤ d → d < many → PenOk (n + 1) b' → R (.int d) (b' :: M2)) : sp_law_draw [.cel 0, .int many] (b :: M2) R RX := by
  unfold sp_law_draw; exact ⟨many, n, b, M2, rfl, rfl, hb, hn, h1, h2, k⟩
def w_law_draw : WS :=
  (wSeq (wIfS (wTest (wOp oGt (wOp oIx (wVar 0) (wC (.int 2))) (wC (.int 0)))) (wSeq (wAsg (wOp oMod (wCB cInt (wCons (wOp oIx (wVar 0) (wC (.int 2))) wNil)) (wVar 1)) (gN 5))
    (wSeq (wAsg (wOp oFdiv (wOp oIx (wVar 0) (wC (.int 2))) (wVar 1)) (gIxL (wVar 0) (wC (.int 2))))
    (wRet (wVar 5)))) wSkip)
    (wSeq (wAsg (wOp oIx (wVar 0) (wC (.int 1))) (gN 2))
    (wSeq (wAsg (wOp oAdd (wVar 2) (wC (.int 1))) (gIxL (wVar 0) (wC (.int 1))))
    (wSeq (wAsg (wOp oAdd (wOp oMul (wC (.int 7489)) (wVar 2)) (wC (.int 89))) (gN 3))
    (wSeq (wIfS (wTest (wOp (oEqI fun b => !b) (wOp oIx (wVar 0) (wC (.int 0))) (wLst wNil))) (wAsg (wOp oIx (wOp oIx (wVar 0) (wC (.int 0))) (wOp oMod (wCB cInt (wCons (wVar 2) wNil)) (wCB cLen (wCons (wOp oIx (wVar 0) (wC (.int 0))) wNil)))) (gN 3)) wSkip)
    (wSeq (wIfS (wAndT (wTest (wOp oLt (wVar 2) (wCB cLen (wCons (wOp oIx (wVar 0) (wC (.int 0))) wNil)))) (wTest (wOp oGe (wCB cAbs (wCons (wVar 3) wNil)) (wOp oPow (wC (.int 10)) (wC (.int 18)))))) (wSeq (wAsg (wOp oAdd (wOp oMul (wC (.int 2)) (wOp oSub (wCB cAbs (wCons (wVar 3) wNil)) (wOp oPow (wC (.int 10)) (wC (.int 18))))) (wCB cInt (wCons (wOp oLt (wVar 3) (wC (.int 0))) wNil))) (gN 6))
    (wSeq (wAsg (wOp oFdiv (wVar 6) (wVar 1)) (gIxL (wVar 0) (wC (.int 2))))
    (wRet (wOp oMod (wCB cInt (wCons (wVar 6) wNil)) (wVar 1))))) wSkip)
    (wSeq (wAsg (wOp oMod (wCB cInt (wCons (wOp oPow (wOp oAdd (wOp oAdd (wOp oMod (wCB cInt (wCons (wVar 3) wNil)) (wC (.int 2147483563))) (wOp oMul (wC (.int 52181)) (wVar 2))) (wC (.int 89))) (wC (.int 3))) wNil)) (wC (.int 2147483647))) (gN 4))
    (wSeq (wAsg (wOp oMod (wCB cInt (wCons (wOp oPow (wOp oAdd (wOp oAdd (wOp oMul (wVar 4) (wOp oAdd (wOp oMul (wC (.int 2)) (wVar 2)) (wC (.int 53)))) (wOp oMul (wOp oMul (wC (.int 52181)) (wVar 2)) (wVar 2))) (wC (.int 7489))) (wC (.int 5))) wNil)) (wC (.int 2147483587))) (gN 4))
    (wRet (wOp oMod (wCB cInt (wCons (wOp oFdiv (wVar 4) (wC (.int 16))) wNil)) (wVar 1)))))))))))
theorem atI_mod {cs : List Int} {a : Int} (hp : 0 < cs.length) (h0 : 0 ≤ a) : ∃ c, L2.atI (cs.map D.int) (a % ((cs.map D.int).length : Int)) = some (D.int c) := by
  have h1 := Int.emod_nonneg a (show ((cs.map D.int).length : Int) ≠ 0 by rw [List.length_map]; omega)
  have h2 := Int.emod_lt_of_pos a (show (0 : Int) < ((cs.map D.int).length : Int) by rw [List.length_map]; omega)
  rw [atI_in h1 h2, List.getElem?_map, List.getElem?_eq_getElem (by rw [List.length_map] at *; omega)]
  exact ⟨_, rfl⟩
theorem great_ok {c : Int} (h : 10 ^ Int.toNat 18 ≤ absI c) : 0 ≤ 2 * (absI c - 10 ^ Int.toNat 18) + (if decide (c < 0) = true then 1 else 0) := by
  split <;> omega
theorem pow_ok (m a x y z : Int) (hx : 0 ≤ x) (hx' : x < 1000) (hy : 0 ≤ y) (hy' : y < 100000) (hz : 0 ≤ z) (hz' : z < 100000) (h : 0 ≤ m) (h' : m < 2147483647) (h0 : 0 ≤ a) (h1 : a ≤ 1000000) : CPow (m * (2 * a + x) + y * a * a + z) 5 := by
  have h2 : m * (2 * a + x) ≤ 2147483647 * 2001000 := Int.mul_le_mul (by omega) (by omega) (by omega) (by omega)
  have h3 : 0 ≤ m * (2 * a + x) := Int.mul_nonneg h (by omega)
  have h4 : y * a ≤ 100000 * 1000000 := Int.mul_le_mul (by omega) (by omega) (by omega) (by omega)
  have h5 : 0 ≤ y * a := Int.mul_nonneg hy h0
  have h6 : y * a * a ≤ 100000000000 * 1000000 := Int.mul_le_mul (by omega) (by omega) (by omega) (by omega)
  have h7 : 0 ≤ y * a * a := Int.mul_nonneg h5 h0
  exact cpow (by omega) (by omega) (by omega) (by omega)
local macro_rules | `(tactic| walk_at "call") => `(tactic| first
  | (refine set_rest ?_; walk_at "go")
  | (refine set_at ?_; walk_at "go"))
theorem wp_law_draw : ∀ ds M R RX, sp_law_draw ds M R RX → M.all (cellOk M.length) = true → noCels M.length ds = true → w_law_draw (fnEnds M.length R) (startE 7 ds) M := by
  unfold sp_law_draw; rintro ds M R RX ⟨many, n, b, M2, rfl, rfl, ⟨cs, at_, rest, rfl, h0, hn0, h2⟩, hn, h3, h4, k⟩ _ _
  have h1 : at_ ≤ 1000000 := by omega
  have fin : ∀ (x a' r' : Int), at_ ≤ a' → a' ≤ at_ + 1 → 0 ≤ r' → retF (pen cs at_ rest :: M2).length R (.int (x % many)) (pen cs a' r' :: M2) := fun x a' r' q1 q2 q3 =>
    .keep (k _ _ (Int.emod_nonneg _ (by omega)) (Int.emod_lt_of_pos _ (by omega)) ⟨cs, a', r', rfl, by omega, by omega, q3⟩)
  have m31 : ∀ x : Int, 0 ≤ x % 2147483647 ∧ x % 2147483647 < 2147483647 := fun x => ⟨Int.emod_nonneg _ (by decide), Int.emod_lt_of_pos _ (by decide)⟩
  have end1 : ∀ x : Int, retF (pen cs at_ rest :: M2).length R (.int (x % many)) (pen cs (at_ + 1) rest :: M2) := fun x => fin _ _ _ (by omega) (by omega) (by omega)
  have end2 : ∀ x : Int, 0 ≤ x → retF (pen cs at_ rest :: M2).length R (.int (x % many)) (pen cs (at_ + 1) (x / many) :: M2) := fun x hx => fin _ _ _ (by omega) (by omega) (Int.ediv_nonneg hx (by omega))
  have pos : (cs.map D.int).isEmpty = false → 0 < cs.length := fun h => by
    cases cs with
    | nil => cases h
    | cons _ _ => simp
  walk_at "go"
  · exact fin _ _ _ (by omega) (by omega) (Int.ediv_nonneg h2 (by omega))
  · exact ⟨by rw [List.length_map]; have := pos (by assumption); omega⟩
  · obtain ⟨c, hc⟩ := atI_mod (a := at_) (pos (by assumption)) h0
    rw [hc]
    walk_at "go"
    all_goals first
      | exact end1 _
      | exact end2 _ (great_ok (by assumption))
      | exact ⟨pow_ok _ _ _ _ _ (by decide) (by decide) (by decide) (by decide) (by decide) (by decide) (m31 _).1 (m31 _).2 h0 h1⟩
  all_goals first
    | exact end1 _
    | exact end2 _ (great_ok (by assumption))
    | exact ⟨pow_ok _ _ _ _ _ (by decide) (by decide) (by decide) (by decide) (by decide) (by decide) (m31 _).1 (m31 _).2 h0 h1⟩

/-! _law_pick: 0 _law_pen_here, 1 _law_some -/
abbrev p_law_pick : List Str := ["_law_pen_here", "_law_some"]
@[irreducible] def sp_law_pick : DSp := fun ds M R _ => ∃ (l : List D) (n : Int) (b : D) (M2 : Mt), ds = [.cel 0, .lst l] ∧ M = b :: M2 ∧ PenOk n b ∧ n ≤ 1000000 ∧ 1 ≤ l.length ∧ l.length ≤ 1000 ∧
  ∀ (d : D) (b' : D), d ∈ l → PenOk (n + 1) b' → R d (b' :: M2)
theorem len_law_pick : ∀ ds M R RX, sp_law_pick ds M R RX → ds.length = p_law_pick.length := by
  unfold sp_law_pick; rintro ds M R RX ⟨_, _, _, _, rfl, _⟩; rfl
theorem use_law_pick {l : List D} {n : Int} {b : D} {M2 : Mt} {R RX} (hb : PenOk n b) (hn : n ≤ 1000000) (h1 : 1 ≤ l.length) (h2 : l.length ≤ 1000)
    (k : ∀ (d : D) (b' : D), d ∈ l → PenOk (n + 1) b' → R d (b' :: M2)) : sp_law_pick [.cel 0, .lst l] (b :: M2) R RX := by
  unfold sp_law_pick; exact ⟨l, n, b, M2, rfl, rfl, hb, hn, h1, h2, k⟩
def w_law_pick : WS :=
  (wRet (wOp oIx (wVar 1) (wCall sp_law_draw [] RX0 (wCons (wVar 0) (wCons (wCB cLen (wCons (wVar 1) wNil)) wNil)))))
theorem wp_law_pick : ∀ ds M R RX, sp_law_pick ds M R RX → M.all (cellOk M.length) = true → noCels M.length ds = true → w_law_pick (fnEnds M.length R) (startE 2 ds) M := by
  unfold sp_law_pick; rintro ds M R RX ⟨l, n, b, M2, rfl, rfl, hb, hn, h1, h2, k⟩ _ _
  walk_at "go"
  refine use_law_draw hb hn (by omega) (by omega) fun dr b2 hd0 hd1 hb2 => ?_
  walk_at "go"
  rw [atI_in hd0 hd1, List.getElem?_eq_getElem (by omega)]
  walk_at "go"
  exact .keep (k _ _ (List.getElem_mem _) hb2)
/-! _law_pairs: 0 _law_pen_here, 1 _law_most, 2 _law_names, 3 _law_found_here, 4 _law_k, 5 _law_taken, 6 _law_name, 7 _law_some, 8 _law_pair -/
abbrev p_law_pairs : List Str := ["_law_pen_here", "_law_most"]
theorem getL {b : D} {x : D} {M2 : Mt} : (b :: (M2 ++ [x]) : Mt)[M2.length + 1]? = some x := by simp
theorem setL {b x y : D} {M2 : Mt} : (b :: (M2 ++ [x]) : Mt).set (M2.length + 1) y = b :: (M2 ++ [y]) := by simp
theorem appL {b d : D} {M2 : Mt} {l : List D} {R : D → Mt → Prop} (hl : l.length < sizeLine) (k : R .non (b :: (M2 ++ [.lst (l ++ [d])]))) : mAppend (.cel (M2.length + 1)) [d] (b :: (M2 ++ [.lst l])) R :=
  app_use getL hl (by rw [setL]; exact k)
theorem frzL {b : D} {M2 : Mt} {l : List D} {R : D → Mt → Prop} (k : R (.lst l) (b :: (M2 ++ [.non]))) : frz (.cel (M2.length + 1)) (b :: (M2 ++ [.lst l])) R := by
  simp only [frz, getL, setL]; exact k
theorem free_name {taken : List Str} (h : taken.length ≤ 6) : 1 ≤ (NMS.filter fun s => !decide (s ∈ taken)).length := by
  by_cases e : (NMS.filter fun s => !decide (s ∈ taken)) = []
  · exfalso
    have := sub_len nms_nd (m := taken) fun x hx => by
      have := List.filter_eq_nil_iff.mp e x hx
      simpa using this
    have e7 : NMS.length = 7 := by decide
    omega
  · cases h2 : (NMS.filter fun s => !decide (s ∈ taken)) with
    | nil => exact absurd h2 e
    | cons a r => simp
@[irreducible] def sp_law_pairs : DSp := fun ds M R _ => ∃ (most n : Int) (b : D) (M2 : Mt), ds = [.cel 0, .int most] ∧ M = b :: M2 ∧ PenOk n b ∧ n ≤ 900000 ∧ 0 ≤ most ∧ most ≤ 6 ∧
  ∀ (prs : List (Str × Int)) (b' : D), PairsOk prs → prs.length ≤ 6 → PenOk (n + 40) b' → R (.lst (prs.map pr)) (b' :: M2)
theorem len_law_pairs : ∀ ds M R RX, sp_law_pairs ds M R RX → ds.length = p_law_pairs.length := by
  unfold sp_law_pairs; rintro ds M R RX ⟨_, _, _, _, rfl, _⟩; rfl
theorem use_law_pairs {most n : Int} {b : D} {M2 : Mt} {R RX} (hb : PenOk n b) (hn : n ≤ 900000) (h1 : 0 ≤ most) (h2 : most ≤ 6)
    (k : ∀ (prs : List (Str × Int)) (b' : D), PairsOk prs → prs.length ≤ 6 → PenOk (n + 40) b' → R (.lst (prs.map pr)) (b' :: M2)) : sp_law_pairs [.cel 0, .int most] (b :: M2) R RX := by
  unfold sp_law_pairs; exact ⟨most, n, b, M2, rfl, rfl, hb, hn, h1, h2, k⟩
def w_law_pairs : WS :=
  (wSeq (wAsg (wLst (wCons (wC (.str "alu")) (wCons (wC (.str "bus")) (wCons (wC (.str "c")) (wCons (wC (.str "d7")) (wCons (wC (.str "shift")) (wCons (wC (.str "longname")) (wCons (wC (.str "z0")) wNil)))))))) (gN 2))
    (wSeq (wAsg (wLstM wNil) (gN 3))
    (wSeq (wFor (wRng1 (wCons (wCall sp_law_draw [] RX0 (wCons (wVar 0) (wCons (wOp oAdd (wVar 1) (wC (.int 1))) wNil))) wNil)) (gN 4) (wSeq (wAsg (wLcC (wVar 3) [8] wYes (wOp oIx (wVar 8) (wC (.int 0))) [8]) (gN 5))
    (wSeq (wAsg (wCall sp_law_pick [] RX0 (wCons (wVar 0) (wCons (wLc (wIt (wVar 2)) [6] (wTest (wOp (oIn true) (wVar 6) (wVar 5))) (wVar 6) [6]) wNil))) (gN 6))
    (wSeq (wAsg (wLst (wCons (wC (.int 0)) (wCons (wC (.int 1)) (wCons (wC (.int 2)) (wCons (wC (.int 3)) (wCons (wOp oPow (wC (.int 10)) (wC (.int 9))) (wCons (wCall sp_law_draw [] RX0 (wCons (wVar 0) (wCons (wC (.int 1000)) wNil))) (wCons (wCall sp_law_draw [] RX0 (wCons (wVar 0) (wCons (wOp oPow (wC (.int 10)) (wC (.int 7))) wNil))) wNil)))))))) (gN 7))
    (wExp (wBM "list" mAppend (wVar 3) (wCons (wTup (wCons (wVar 6) (wCons (wCall sp_law_pick [] RX0 (wCons (wVar 0) (wCons (wVar 7) wNil))) wNil))) wNil)))))))
    (wRetF (wVar 3)))))
theorem wp_law_pairs : ∀ ds M R RX, sp_law_pairs ds M R RX → M.all (cellOk M.length) = true → noCels M.length ds = true → w_law_pairs (fnEnds M.length R) (startE 9 ds) M := by
  unfold sp_law_pairs; rintro ds M R RX ⟨most, n, b, M2, rfl, rfl, hb, hn, h1, h2, k⟩ hM hds
  obtain ⟨nms, hnms⟩ : ∃ nms, nms = NMS := ⟨_, rfl⟩
  walk_at "go"
  refine use_law_draw hb (by omega) (by omega) (by omega) fun many b hm0 hm1 hb => ?_
  walk_at "go"
  refine forL_inv (fun i env M => ∃ (b : D) (prs : List (Str × Int)) (e4 e5 e6 e7 : Option D), env = [some (.cel 0), some (.int most), some (.lst (nms.map D.str)), some (.cel (M2.length + 1)), e4, e5, e6, e7, none] ∧ M = b :: (M2 ++ [.lst (prs.map pr)]) ∧ PenOk (n + 1 + 4 * i) b ∧ PairsOk prs ∧ prs.length = i)
    ⟨b, [], none, none, none, none, by rw [hnms]; rfl, rfl, by simpa using hb, ⟨List.nodup_nil, by simp, by simp⟩, rfl⟩ ?_ ?_
  · rintro i d env M hd ⟨b, prs, e4, e5, e6, e7, rfl, rfl, hb, hp, hpl⟩
    obtain ⟨hi, rfl⟩ := range_get hd
    have hi6 : i < 6 := by omega
    clear hd
    walk_at "go"
    rw [show (b :: (M2 ++ [D.lst (prs.map pr)]) : Mt)[M2.length + 1]? = some (.lst (prs.map pr)) from getL]
    walk_at "go"
    refine lcC_fun getL (fun _ => true) (fun d => match d with | .tup (a :: _) => a | _ => .non) _ _ _ (by rw [line16]; simp; omega) (fun d hd A C hA hC => ?_) ?_
    · obtain ⟨p, _, rfl⟩ := List.mem_map.mp hd
      have hA' : A (.str p.1) (b :: (M2 ++ [.lst (prs.map pr)])) := hA rfl
      walk_at "go"
      exact hA'
    have et : ([] ++ ((prs.map pr).filter fun _ => true).map fun d => match d with | .tup (a :: _) => a | _ => D.non) = (prs.map (·.1)).map D.str := by
      rw [List.nil_append, List.filter_eq_self.mpr fun _ _ => rfl, List.map_map, List.map_map]; rfl
    rw [et]
    obtain ⟨taken, ht⟩ : ∃ t, t = prs.map (·.1) := ⟨_, rfl⟩
    rw [← ht]
    have htl : taken.length = i := by rw [ht, List.length_map, hpl]
    walk_at "go"
    refine lcL_fun (fun d => match d with | .str s => !decide (s ∈ taken) | _ => false) id _ _ _ (by rw [hnms, line16]; simp [NMS]) (fun d hd A C hA hC => ?_) ?_
    · obtain ⟨s, _, rfl⟩ := List.mem_map.mp hd
      have hA' : (!decide (s ∈ taken)) = true → A (.str s) (b :: (M2 ++ [.lst (prs.map pr)])) := hA
      have hC' : (!decide (s ∈ taken)) = false → C (b :: (M2 ++ [.lst (prs.map pr)])) := hC
      clear hA hC
      walk_at "go"
      refine in_use (.inl rfl) ?_
      cases hq : decide (s ∈ taken)
      · walk_at "go"
        exact hA' (by simpa using hq)
      · walk_at "go"
        exact hC' (by simpa using hq)
    have en : ([] ++ ((nms.map D.str).filter fun d => match d with | .str s => !decide (s ∈ taken) | _ => false).map id) = (nms.filter fun s => !decide (s ∈ taken)).map D.str := by
      rw [List.nil_append, List.map_id, List.filter_map]; rfl
    rw [en]
    walk_at "go"
    refine use_law_pick hb (by omega) (by rw [List.length_map, hnms]; exact free_name (by omega)) (by rw [List.length_map]; exact Nat.le_trans (List.length_filter_le _ _) (by rw [hnms]; decide)) fun nd b hnd hb => ?_
    obtain ⟨s, hs, rfl⟩ := List.mem_map.mp hnd
    obtain ⟨hs1, hs2⟩ := List.mem_filter.mp hs
    have hs2 : s ∉ taken := by simpa using hs2
    walk_at "go"
    refine use_law_draw hb (by omega) (by decide) (by decide) fun d1 b hd10 hd11 hb => ?_
    walk_at "go"
    refine use_law_draw hb (by omega) (by decide) (by decide) fun d2 b hd20 hd21 hb => ?_
    walk_at "go"
    · exact ⟨by rw [view_at getL]; rfl⟩
    refine use_law_pick hb (by omega) (by simp) (by simp) fun nv b hnv hb => ?_
    obtain ⟨v, rfl, hv0, hv1⟩ : ∃ v : Int, nv = .int v ∧ 0 ≤ v ∧ v ≤ 1000000000 := by
      have e9 : (10 : Int) ^ Int.toNat 9 = 1000000000 := by decide
      have e7 : (10 : Int) ^ Int.toNat 7 = 10000000 := by decide
      rw [e7] at hd21
      simp only [List.mem_cons, List.not_mem_nil, or_false] at hnv
      rcases hnv with rfl | rfl | rfl | rfl | rfl | rfl | rfl
      · exact ⟨_, rfl, by decide, by decide⟩
      · exact ⟨_, rfl, by decide, by decide⟩
      · exact ⟨_, rfl, by decide, by decide⟩
      · exact ⟨_, rfl, by decide, by decide⟩
      · exact ⟨_, rfl, by decide, by decide⟩
      · exact ⟨_, rfl, by omega, by omega⟩
      · exact ⟨_, rfl, by omega, by omega⟩
    walk_at "go"
    refine appL (by rw [line16, List.length_map]; omega) ?_
    walk_at "go"
    refine ⟨b, prs ++ [(s, v)], _, _, _, _, rfl, by simp [pr], hb.mono (by omega), ⟨?_, fun p hp2 => ?_, fun p hp2 => ?_⟩, by simp [hpl]⟩
    · rw [List.map_append, List.nodup_append]
      refine ⟨hp.nd, by simp, fun a ha b hb e => ?_⟩
      have : b = s := by simpa using hb
      subst this; subst e
      exact hs2 (by rw [ht]; exact ha)
    · rcases List.mem_append.mp hp2 with z | z
      · exact hp.nm p z
      · have : p = (s, v) := by simpa using z
        rw [this, ← hnms]; exact hs1
    · rcases List.mem_append.mp hp2 with z | z
      · exact hp.nb p z
      · have : p = (s, v) := by simpa using z
        rw [this]; exact ⟨hv0, hv1⟩
  · rintro env M ⟨b, prs, e4, e5, e6, e7, rfl, rfl, hb, hp, hpl⟩
    rw [range_len] at hpl hb
    walk_at "go"
    refine frzL ?_
    walk_at "go"
    have ht : (b :: (M2 ++ [D.non]) : Mt).take (M2.length + 1) = b :: M2 := by simp
    have hN : ∀ k, noCels k (prs.map pr) = true := fun k => noCels_mem.mpr fun d hd => by
      obtain ⟨p, _, rfl⟩ := List.mem_map.mp hd; rfl
    refine .less (hN _) ?_ ?_
    · show ((b :: (M2 ++ [D.non]) : Mt).take (M2.length + 1)).all _ = true
      rw [ht]
      rw [List.all_cons, Bool.and_eq_true] at hM ⊢
      exact ⟨pen_cell hb _, hM.2⟩
    · show R _ ((b :: (M2 ++ [D.non]) : Mt).take (M2.length + 1))
      rw [ht]
      exact k prs b hp (by omega) (hb.mono (by omega))

/-! _law_due_of: 0 _law_pairs_here, 1 _law_pair -/
abbrev p_law_due_of : List Str := ["_law_pairs_here"]
theorem nms_sok : ∀ s ∈ NMS, PyData.strOk s = true := by
  have h : NMS.all PyData.strOk = true := by decide +kernel
  exact fun s hs => List.all_eq_true.mp h s hs
def pP (p : Str × Int) : PyData := .tuple [.str p.1, .int p.2]
theorem pP_lay {p : Str × Int} (h : p.1 ∈ NMS) : (pP p).canLay0 = true := by simp [pP, PyData.canLay0, PyData.canLayAll0, nms_sok _ h]
theorem pP_dep (p : Str × Int) : (pP p).depth ≤ 1 := by simp [pP, PyData.depth, PyData.depthAll]
theorem toPs_pD (l : PL) : toPs (l.map pD) = some (l.map pP) := toPs_map (fun _ => rfl) l
theorem lay_pD {l : PL} (h : ∀ p ∈ l, p.1 ∈ NMS) : PyData.canLayAll0 (l.map pP) = true := canLay_map fun p hp => pP_lay (h p hp)
theorem dep_pD (l : PL) : PyData.depthAll (l.map pP) ≤ 1 := depth_map fun p _ => pP_dep p
theorem sh_pairs {l : PL} (h : ∀ p ∈ l, p.1 ∈ NMS) : ShD (.tup (l.map pD)) := ⟨.tuple (l.map pP), by simp [toP, toPs_pD], by
  have := dep_pD l
  simp [SeqAt.shaped, PyData.canLay0, PyData.depth, lay_pD h]; omega⟩
theorem pl_pairs {l : PL} (h : ∀ p ∈ l, p.1 ∈ NMS) : plainOk (l.map pD) := ⟨l.map pP, toPs_pD l, shaped_map (fun p hp => pP_lay (h p hp)) fun p _ => by have := pP_dep p; omega⟩
@[irreducible] def sp_law_due_of : DSp := fun ds M R _ => ∃ ps : PL, ds = [.lst (ps.map pD)] ∧ ps.length ≤ 1000 ∧ R (.tup ((canon ps).map pD)) M
theorem len_law_due_of : ∀ ds M R RX, sp_law_due_of ds M R RX → ds.length = p_law_due_of.length := by
  unfold sp_law_due_of; rintro ds M R RX ⟨_, rfl, _⟩; rfl
theorem use_law_due_of {ps : PL} {M : Mt} {R RX} (h1 : ps.length ≤ 1000) (k : R (.tup ((canon ps).map pD)) M) : sp_law_due_of [.lst (ps.map pD)] M R RX := by
  unfold sp_law_due_of; exact ⟨ps, rfl, h1, k⟩
def w_law_due_of : WS :=
  (wRet (wCB cTuple (wCons (wCB cSortP (wCons (wLc (wIt (wVar 0)) [1] (wTest (wOp (oEqI fun b => !b) (wOp oIx (wVar 1) (wC (.int 1))) (wC (.int 0)))) (wVar 1) [1]) wNil)) wNil)))
def nzD : D → Bool
  | .tup [_, .int i] => decide (i ≠ 0)
  | _ => false
theorem nz_pD (l : PL) : (l.map pD).filter nzD = (l.filter nz).map pD := by rw [List.filter_map]; rfl
theorem wp_law_due_of : ∀ ds M R RX, sp_law_due_of ds M R RX → M.all (cellOk M.length) = true → noCels M.length ds = true → w_law_due_of (fnEnds M.length R) (startE 2 ds) M := by
  unfold sp_law_due_of; rintro ds M R RX ⟨ps, rfl, hl, k⟩ _ _
  walk_at "go"
  refine lcL_fun nzD id _ _ _ (by rw [line16, List.length_map]; simp; omega) (fun d hd A C hA hC => ?_) ?_
  · obtain ⟨p, hp, rfl⟩ := List.mem_map.mp hd
    walk_at "go"
    · exact hA (by show decide (p.2 ≠ 0) = true; simp; assumption)
    · exact hC (by show decide (p.2 ≠ 0) = false; simp; assumption)
  · rw [List.nil_append, List.map_id, nz_pD]
    walk_at "go"
    refine sortP_use rfl fun qs hp ha => ?_
    walk_at "go"
    refine .keep ?_
    rw [canon_of hp ha]
    exact k
/-! _law_do_clash: 0 _law_one, 1 _law_two, 2 _law_numbers, 3 _law_name, 4 _law_number -/
abbrev p_law_do_clash : List Str := ["_law_one", "_law_two"]
@[irreducible] def sp_law_do_clash : DSp := fun ds M R _ => ∃ one two : PL, ds = [.lst (one.map pD), .lst (two.map pD)] ∧ PairsOk one ∧ PairsOk two ∧ R (.bl (clash (canon one) (canon two)).isSome) M
theorem len_law_do_clash : ∀ ds M R RX, sp_law_do_clash ds M R RX → ds.length = p_law_do_clash.length := by
  unfold sp_law_do_clash; rintro ds M R RX ⟨_, _, rfl, _⟩; rfl
theorem use_law_do_clash {one two : PL} {M : Mt} {R RX} (h1 : PairsOk one) (h2 : PairsOk two) (k : R (.bl (clash (canon one) (canon two)).isSome) M) : sp_law_do_clash [.lst (one.map pD), .lst (two.map pD)] M R RX := by
  unfold sp_law_do_clash; exact ⟨one, two, rfl, h1, h2, k⟩
def w_law_do_clash : WS :=
  (wSeq (wAsg (wCB cDictL (wCons (wVar 1) wNil)) (gN 2))
    (wRet (wOp (oEqI fun b => !b) (wLc (wIt (wVar 0)) [3, 4] (wAndT (wTest (wOp (oEqI fun b => !b) (wVar 4) (wC (.int 0)))) (wTest (wOp (oIn true) (wGet2 (wVar 2) (wVar 3) (wC (.int 0))) (wTup (wCons (wC (.int 0)) (wCons (wVar 4) wNil)))))) (wVar 3) [3, 4]) (wLst wNil))))
theorem clash_any {one two : PL} (h2 : PairsOk two) : (clash (canon one) (canon two)).isSome = one.any fun p => nz p && bad two p := by
  unfold clash
  rw [Option.isSome_map]
  rw [Bool.eq_iff_iff, List.find?_isSome, List.any_eq_true]
  constructor
  · rintro ⟨p, hp, hb⟩
    obtain ⟨h3, h4⟩ := canon_mem.mp hp
    refine ⟨p, h3, ?_⟩
    rw [Bool.and_eq_true]
    refine ⟨by simpa [nz] using h4, ?_⟩
    unfold bad at hb ⊢
    rw [getN_canon h2.nd] at hb; exact hb
  · rintro ⟨p, hp, hb⟩
    rw [Bool.and_eq_true] at hb
    refine ⟨p, canon_mem.mpr ⟨hp, by simpa [nz] using hb.1⟩, ?_⟩
    have := hb.2
    unfold bad at this ⊢
    rw [getN_canon h2.nd]; exact this
def dcF (two : PL) : D → Bool
  | .tup [.str s, .int i] => nz (s, i) && bad two (s, i)
  | _ => false
def dcN : D → D
  | .tup [x, _] => x
  | d => d
theorem wp_law_do_clash : ∀ ds M R RX, sp_law_do_clash ds M R RX → M.all (cellOk M.length) = true → noCels M.length ds = true → w_law_do_clash (fnEnds M.length R) (startE 5 ds) M := by
  unfold sp_law_do_clash; rintro ds M R RX ⟨one, two, rfl, ok1, ok2, k⟩ _ _
  have l1 := ok_len ok1
  rw [clash_any ok2] at k
  walk_at "go"
  refine dictL_use rfl (kp_map two) ?_
  rw [merge_kdI, mrg_nd ok2.nd]
  walk_at "go"
  refine lcL_fun (dcF two) dcN _ _ _ (by rw [line16, List.length_map]; simp; omega) (fun d hd A C hA hC => ?_) ?_
  · obtain ⟨p, hp, rfl⟩ := List.mem_map.mp hd
    obtain ⟨s, i⟩ := p
    have hA' : (nz (s, i) && bad two (s, i)) = true → A (.str s) M := hA
    have hC' : (nz (s, i) && bad two (s, i)) = false → C M := hC
    clear hA hC
    by_cases hi : i = 0
    · have e1 : nz (s, i) = false := by rw [hi]; rfl
      rw [e1, Bool.false_and] at hC'
      have hC2 := hC' rfl
      walk_at "go"
      exact hC2
    · have e1 : nz (s, i) = true := decide_eq_true hi
      rw [e1, Bool.true_and] at hA' hC'
      unfold bad at hA' hC'
      walk_at "go"
      refine get2_use rfl rfl ?_
      rw [val_kdI]
      walk_at "go"
      refine in_two ?_
      by_cases h : getN two s ≠ 0 ∧ getN two s ≠ i
      · have hA2 := hA' h
        rw [decide_eq_true h]
        walk_at "go"
        exact hA2
      · have hC2 := hC' h
        rw [decide_eq_false h]
        walk_at "go"
        exact hC2
  · have ef : ([] : List D) ++ ((one.map pD).filter (dcF two)).map dcN = ((one.filter fun p => nz p && bad two p).map (·.1)).map D.str := by
      rw [List.nil_append, List.filter_map, List.map_map, List.map_map]; rfl
    rw [ef]
    have pl : plainOk (((one.filter fun p => nz p && bad two p).map (·.1)).map D.str) := ⟨((one.filter fun p => nz p && bad two p).map (·.1)).map PyData.str, toPs_strs _, shaped_map (fun s hs => by
      obtain ⟨p, hp, rfl⟩ := List.mem_map.mp hs
      simp only [PyData.canLay0]
      exact nms_sok _ (ok1.nm p (List.mem_filter.mp hp).1)) fun _ _ => Nat.zero_le _⟩
    have ee : (((one.filter fun p => nz p && bad two p).map (·.1)).map D.str).isEmpty = !(one.any fun p => nz p && bad two p) := by
      rw [List.isEmpty_map, List.isEmpty_map]
      cases h : one.any fun p => nz p && bad two p
      · rw [Bool.not_false, List.isEmpty_iff, List.filter_eq_nil_iff]
        intro p hp z
        have := List.any_eq_false.mp h p hp
        exact this z
      · rw [Bool.not_true]
        obtain ⟨p, hp, hb⟩ := List.any_eq_true.mp h
        cases e : (one.filter fun p => nz p && bad two p) with
        | nil =>
          have := List.filter_eq_nil_iff.mp e p hp
          exact absurd hb this
        | cons _ _ => rfl
    generalize ((one.filter fun p => nz p && bad two p).map (·.1)).map D.str = L at *
    walk_at "go"
    rw [ee, Bool.not_not]
    exact .keep k
/-! _law_due: 0 _law_shares, 1 _law_names, 2 _law_at, 3 _law_pairs_here, 4 _law_name, 5 _law_lesser, 6 _law_field, 7 _law_number -/
abbrev p_law_due : List Str := ["_law_shares"]
def kdR (rs : Parts) : List (Key × D) := rs.map fun p => (Sum.inr p.1, .lst (p.2.map pD))
def tld (rs : Parts) : Parts := rs.map fun p => (p.1, canon p.2)
theorem tld_names (rs : Parts) : (tld rs).map (·.1) = rs.map (·.1) := by unfold tld; rw [List.map_map]; rfl
theorem getT_tld (rs : Parts) (s : Str) : getT (tld rs) s = canon (getT rs s) := by
  induction rs with
  | nil => exact canon_nil.symm
  | cons a r ih =>
    obtain ⟨a1, a2⟩ := a
    unfold getT tld at ih ⊢
    rw [List.map_cons]
    by_cases e : s = a1
    · subst e; simp [List.lookup_cons]
    · have e3 : (s == a1) = false := by simpa using e
      rw [List.lookup_cons, List.lookup_cons, e3]; exact ih
theorem tld_ok {rs : Parts} (ok : PartsOk rs) : PartsOk (tld rs) := ⟨by rw [tld_names]; exact ok.nd, fun p hp => by
  obtain ⟨q, hq, rfl⟩ := List.mem_map.mp hp
  exact canon_ok (ok.ok q hq), by unfold tld; rw [List.length_map]; exact ok.len⟩
theorem val_kdR {ps : Parts} {s : Str} (h : s ∈ ps.map (·.1)) : valD (kdR ps) (Sum.inr s) = some (.lst ((getT ps s).map pD)) := by
  induction ps with
  | nil => simp at h
  | cons a r ih =>
    obtain ⟨a1, a2⟩ := a
    by_cases e : s = a1
    · subst e
      simp [kdR, valD, getT, List.lookup_cons]
    · have e3 : (s == a1) = false := by simpa using e
      have h' : s ∈ r.map (·.1) := by
        rcases List.mem_cons.mp (by simpa using h : s ∈ a1 :: r.map (·.1)) with z | z
        · exact absurd z e
        · exact z
      have := ih h'
      have ne : decide ((Sum.inr a1 : Key) = Sum.inr s) = false := decide_eq_false fun z => e (by cases z; rfl)
      simp only [kdR, List.map_cons, valD] at this ⊢
      rw [List.find?_cons, ne]
      show Option.map _ (List.find? _ (List.map _ r)) = _
      rw [this]
      simp [getT, List.lookup_cons, e3]
theorem keys_kdR (ps : Parts) : ((kdR ps).map fun p => kD p.1) = (ps.map (·.1)).map D.str := by
  unfold kdR
  rw [List.map_map, List.map_map]; rfl
def resD (ps : Parts) : D := match fstC (cl ps) [] (srt (ps.map (·.1))) with
  | some x => .tup [.str "clash", .tup [.str x.1, .str x.2]]
  | none => .tup [.str "made", .tup ((uni ps (srt (ps.map (·.1)))).map pD)]
theorem getF_use {ks : List (Key × D)} {x y d : D} {k : Key} {M : Mt} {R : D → Mt → Prop} (h : viewD M x = .fdc ks) (hk : keyD y = some k) (hv : valD ks k = some d) (q : R d M) : oDGet x y M R := by
  simp only [oDGet, h, hk, hv]; exact q
/-- numbers that are not 0 are put in -/
def putz (A : PL) (p : Str × Int) : PL := if p.2 ≠ 0 then put1 A p else A
def accR (rs : Parts) (A : PL) (s : Str) : PL := (getT rs s).foldl putz A
theorem getN_putz (ns : PL) (p : Str × Int) (s : Str) : getN (putz ns p) s = if s = p.1 ∧ p.2 ≠ 0 then p.2 else getN ns s := by
  unfold putz
  by_cases h : p.2 ≠ 0
  · rw [if_pos h, getN_put1]
    by_cases e : s = p.1
    · rw [if_pos e, if_pos ⟨e, h⟩]
    · rw [if_neg e, if_neg fun z => e z.1]
  · rw [if_neg h, if_neg fun z => h z.2]
theorem putz_ok {ns : PL} {p : Str × Int} (ok : PairsOk ns) (h1 : p.1 ∈ NMS) (h2 : 0 ≤ p.2 ∧ p.2 ≤ 1000000000) : PairsOk (putz ns p) := by
  unfold putz
  split
  · exact put1_ok ok h1 h2
  · exact ok
theorem fold_putz : ∀ {ps ns : PL}, PairsOk ns → PairsOk ps → PairsOk (ps.foldl putz ns) ∧ ∀ s, getN (ps.foldl putz ns) s = if getN ps s ≠ 0 then getN ps s else getN ns s
  | [], ns, ok, _ => ⟨ok, fun s => by
    rw [if_neg]
    · rfl
    · exact fun z => z rfl⟩
  | a :: r, ns, ok, okp => by
    have okr : PairsOk r := ⟨(List.nodup_cons.mp (by simpa using okp.nd)).2, fun q hq => okp.nm q (List.mem_cons_of_mem _ hq), fun q hq => okp.nb q (List.mem_cons_of_mem _ hq)⟩
    have ha : a.1 ∉ r.map (·.1) := (List.nodup_cons.mp (by simpa using okp.nd)).1
    have ok2 := putz_ok ok (okp.nm a List.mem_cons_self) (okp.nb a List.mem_cons_self)
    obtain ⟨h1, h2⟩ := fold_putz ok2 okr
    refine ⟨h1, fun s => ?_⟩
    rw [List.foldl_cons, h2, getN_putz, getN_cons]
    by_cases e : s = a.1
    · subst e
      rw [getN_not ha, if_neg (fun z => z rfl), if_pos rfl]
      by_cases h : a.2 ≠ 0
      · rw [if_pos ⟨rfl, h⟩, if_pos h]
      · rw [if_neg fun z => h z.2, if_neg h]
    · have e2 : ¬ (s = a.1 ∧ a.2 ≠ 0) := fun z => e z.1
      rw [if_neg e2, if_neg e]
theorem over_putz {ns ps : PL} (ok : PairsOk ns) (okp : PairsOk ps) : canon (mrg (canon ns ++ canon ps)) = canon (ps.foldl putz ns) := by
  rw [canon_over ok okp]
  obtain ⟨h1, h2⟩ := fold_stp ok okp
  obtain ⟨h3, h4⟩ := fold_putz ok okp
  exact canon_ext h1 h3 fun s => by rw [h2, h4]
theorem putz_nz {ps ns : PL} (h : ∀ p ∈ ns, p.2 ≠ 0) : ∀ p ∈ ps.foldl putz ns, p.2 ≠ 0 := by
  induction ps generalizing ns with
  | nil => exact h
  | cons a r ih =>
    refine ih (ns := putz ns a) fun p hp => ?_
    unfold putz at hp
    split at hp
    · rename_i hz
      rcases put1_mem hp with e | e
      · rw [e]; exact hz
      · exact h p e
    · exact h p hp
theorem acc_all {rs : Parts} (ok : PartsOk rs) : ∀ (ns : List Str) (A F : PL), (∀ s ∈ ns, s ∈ rs.map (·.1)) → PairsOk A → F = canon A → (∀ p ∈ A, p.2 ≠ 0) →
    PairsOk (ns.foldl (accR rs) A) ∧ ns.foldl (fun F s => canon (mrg (F ++ getT (tld rs) s))) F = canon (ns.foldl (accR rs) A) ∧ ∀ p ∈ ns.foldl (accR rs) A, p.2 ≠ 0
  | [], A, F, _, okA, e, hz => ⟨okA, e, hz⟩
  | n :: r, A, F, hin, okA, e, hz => by
    have okn := getT_ok ok (hin n List.mem_cons_self)
    refine acc_all ok r (accR rs A n) _ (fun s hs => hin s (List.mem_cons_of_mem _ hs)) (fold_putz okA okn).1 ?_ (putz_nz hz)
    rw [e]
    show canon (mrg (canon A ++ getT (tld rs) n)) = _
    rw [getT_tld, over_putz okA okn]; rfl
@[irreducible] def sp_law_due : DSp := fun ds M R _ => ∃ rs : Parts, ds = [.fdc (kdR rs)] ∧ PartsOk rs ∧ R (resD (tld rs)) M
theorem len_law_due : ∀ ds M R RX, sp_law_due ds M R RX → ds.length = p_law_due.length := by
  unfold sp_law_due; rintro ds M R RX ⟨_, rfl, _⟩; rfl
theorem use_law_due {rs : Parts} {M : Mt} {R RX} (h1 : PartsOk rs) (k : R (resD (tld rs)) M) : sp_law_due [.fdc (kdR rs)] M R RX := by
  unfold sp_law_due; exact ⟨rs, rfl, h1, k⟩
def w_law_due : WS :=
  (wSeq (wAsg (wCB cSortS (wCons (wCB (cListA false) (wCons (wVar 0) wNil)) wNil)) (gN 1))
    (wSeq (wFor (wRng1 (wCons (wCB cLen (wCons (wVar 1) wNil)) wNil)) (gN 2) (wFor (wIt (wSl (wVar 1) wNoP (wP (wVar 2)))) (gN 5) (wIfS (wTru (wCall sp_law_do_clash [] RX0 (wCons (wOp oDGet (wVar 0) (wVar 5)) (wCons (wOp oDGet (wVar 0) (wOp oIx (wVar 1) (wVar 2))) wNil)))) (wRet (wTup (wCons (wC (.str "clash")) (wCons (wTup (wCons (wVar 5) (wCons (wOp oIx (wVar 1) (wVar 2)) wNil))) wNil)))) wSkip)))
    (wSeq (wAsg (wDict0 true) (gN 3))
    (wSeq (wFor (wIt (wVar 1)) (gN 4) (wFor (wIt (wOp oDGet (wVar 0) (wVar 4))) (gT 2 (gsCons (gN 6) (gsCons (gN 7) gsNil))) (wIfS (wTest (wOp (oEqI fun b => !b) (wVar 7) (wC (.int 0)))) (wDPut (wVar 3) (wVar 6) (wVar 7)) wSkip)))
    (wLkD 3 (wRet (wTup (wCons (wC (.str "made")) (wCons (wCB cTuple (wCons (wCB cSortP (wCons (wLc (wItF (wVar 3)) [6] wYes (wTup (wCons (wVar 6) (wCons (wOp oDGet (wVar 3) (wVar 6)) wNil))) [6]) wNil)) wNil)) wNil)))))))))
theorem str_at {ns : List Str} {i : Nat} {d : D} (hd : (ns.map D.str)[i]? = some d) : ∃ s, ns[i]? = some s ∧ d = .str s := by
  rw [List.getElem?_map] at hd
  cases h : ns[i]? with
  | none => rw [h] at hd; cases hd
  | some s => rw [h] at hd; exact ⟨s, rfl, (Option.some.inj hd).symm⟩
theorem at_lstr {ss : List Str} {k : Nat} {s : Str} (h : ss[k]? = some s) : L2.atI (ss.map D.str) (k : Int) = some (.str s) := by
  have hk := (List.getElem?_eq_some_iff.mp h).1
  rw [atI_in (by omega) (by rw [List.length_map]; omega), List.getElem?_map, Int.toNat_natCast, h]; rfl
theorem wp_law_due : ∀ ds M R RX, sp_law_due ds M R RX → M.all (cellOk M.length) = true → noCels M.length ds = true → w_law_due (fnEnds M.length R) (startE 8 ds) M := by
  unfold sp_law_due; rintro ds M R RX ⟨rs, rfl, ok, k⟩ hM hds
  have hl := ok.len
  unfold resD at k
  rw [tld_names] at k
  unfold w_law_due
  refine seq_cut (fun env M' => ∃ ns : List Str, env = [some (.fdc (kdR rs)), some (.lst (ns.map D.str)), none, none, none, none, none, none] ∧ M' = M ∧ ns = srt (rs.map (·.1))) ?_ ?_
  · intro K hK
    walk_at "go"
    rw [keys_kdR, strsD_map]
    have hl2 : (rs.map (·.1)).length ≤ 7 := by rw [List.length_map]; exact hl
    generalize hq : rs.map (·.1) = q at *
    walk_at "go"
    rename_i ns hp hs
    exact hK _ _ ⟨ns, rfl, rfl, srt_of (by rw [← hq]; exact ok.nd) hp hs⟩
  rintro env M' ⟨ns, rfl, eM, hns⟩
  rw [eM]
  clear eM M'
  have hin : ∀ s ∈ ns, s ∈ rs.map (·.1) := fun s hs => (srt_perm _).subset (hns ▸ hs)
  have hnl : ns.length ≤ 7 := by rw [hns, (srt_perm _).length_eq, List.length_map]; exact hl
  rw [← hns] at k
  clear hns
  -- do two clash
  refine seq_cut (fun env M' => ∃ e2 e5, env = [some (.fdc (kdR rs)), some (.lst (ns.map D.str)), e2, none, none, e5, none, none] ∧ M' = M ∧ fstC (cl (tld rs)) [] ns = none) ?_ ?_
  · intro K hK
    walk_at "go"
    refine forL_inv (fun i env M' => ∃ e2 e5, env = [some (.fdc (kdR rs)), some (.lst (ns.map D.str)), e2, none, none, e5, none, none] ∧ M' = M ∧ fstC (cl (tld rs)) (ns.take i) (ns.drop i) = fstC (cl (tld rs)) [] ns) ⟨_, _, rfl, rfl, rfl⟩ ?_ ?_
    · rintro i d env M' hd ⟨e2, e5, rfl, eM, hb⟩
      rw [eM]
      clear eM M'
      obtain ⟨hi, rfl⟩ := range_get hd
      clear hd
      have hil : i < ns.length := by simpa using hi
      clear hi
      have hn : ns[i]? = some ns[i] := List.getElem?_eq_getElem hil
      generalize ns[i] = n at *
      have hse := (List.getElem?_eq_some_iff.mp hn).2
      have hnp := hin n (List.mem_of_getElem? hn)
      rw [List.drop_eq_getElem_cons hil, hse, fstC_cons] at hb
      have et : ns.take (i + 1) = ns.take i ++ [n] := by rw [List.take_add_one, hn]; rfl
      have hat := at_lstr hn
      walk_at "go"
      rw [show (0 + (i : Int)) = (i : Int) from by omega, cut_take, ← List.map_take]
      have hti : ∀ s ∈ ns.take i, s ∈ rs.map (·.1) := fun s hs => hin s (List.mem_of_mem_take hs)
      generalize ns.take i = seen at *
      refine forL_inv (fun j env M' => ∃ e5, env = [some (.fdc (kdR rs)), some (.lst (ns.map D.str)), some (.int (i : Int)), none, none, e5, none, none] ∧ M' = M ∧ (seen.drop j).find? (fun l => cl (tld rs) l n) = seen.find? (fun l => cl (tld rs) l n)) ⟨_, by first | rfl | simp, rfl, rfl⟩ ?_ ?_
      · rintro j d env M' hd ⟨e5, rfl, eM, hb2⟩
        rw [eM]
        clear eM M'
        obtain ⟨l, hl2, rfl⟩ := str_at hd
        obtain ⟨hjl, hse2⟩ := List.getElem?_eq_some_iff.mp hl2
        rw [List.drop_eq_getElem_cons hjl, hse2, List.find?_cons] at hb2
        have hlp := hti l (List.mem_of_getElem? hl2)
        have ec : cl (tld rs) l n = (clash (canon (getT rs l)) (canon (getT rs n))).isSome := by unfold cl; rw [getT_tld, getT_tld]
        walk_at "go"
        refine getF_use rfl rfl (val_kdR hlp) ?_
        walk_at "go"
        rw [hat]
        walk_at "go"
        refine getF_use rfl rfl (val_kdR hnp) ?_
        walk_at "go"
        refine use_law_do_clash (getT_ok ok hlp) (getT_ok ok hnp) ?_
        rw [← ec]
        cases hc : cl (tld rs) l n with
        | true =>
          rw [hc] at hb2
          rw [← hb2] at hb
          rw [← hb] at k
          walk_at "go"
          rw [hat]
          walk_at "go"
          exact .keep k
        | false =>
          rw [hc] at hb2
          walk_at "go"
          exact ⟨_, rfl, rfl, hb2⟩
      · rintro env M' ⟨e5, rfl, eM, hb2⟩
        rw [eM]
        clear eM M'
        rw [List.length_map, List.drop_length] at hb2
        rw [← hb2] at hb
        exact ⟨_, _, rfl, rfl, by rw [et]; exact hb⟩
    · rintro env M' ⟨e2, e5, rfl, eM, hb⟩
      rw [range_len, Int.toNat_natCast, List.length_map, List.drop_length] at hb
      exact hK _ _ ⟨_, _, rfl, eM, hb.symm⟩
  rintro env M' ⟨e2, e5, rfl, eM, hb⟩
  rw [eM]
  clear eM M'
  rw [hb] at k
  refine seq_cut (fun env M' => env = [some (.fdc (kdR rs)), some (.lst (ns.map D.str)), e2, some (.cel M.length), none, e5, none, none] ∧ M' = M ++ [.dct (kdI [])]) ?_ ?_
  · intro K hK
    walk_at "go"
    exact hK _ _ ⟨rfl, rfl⟩
  rintro env M' ⟨rfl, eM⟩
  rw [eM]
  clear eM M'
  have hall := fun (l : List Str) (h : ∀ s ∈ l, s ∈ rs.map (·.1)) => acc_all ok l [] [] h ok_nil canon_nil.symm (fun p hp => nomatch hp)
  refine seq_cut (fun env M' => ∃ e4 e6 e7, env = [some (.fdc (kdR rs)), some (.lst (ns.map D.str)), e2, some (.cel M.length), e4, e5, e6, e7] ∧ M' = M ++ [.dct (kdI (ns.foldl (accR rs) []))]) ?_ ?_
  · intro K hK
    walk_at "go"
    refine forL_inv (fun i env M' => ∃ e4 e6 e7, env = [some (.fdc (kdR rs)), some (.lst (ns.map D.str)), e2, some (.cel M.length), e4, e5, e6, e7] ∧ M' = M ++ [.dct (kdI ((ns.take i).foldl (accR rs) []))]) ⟨_, _, _, rfl, rfl⟩ ?_ ?_
    · rintro i d env M' hd ⟨e4, e6, e7, rfl, eM⟩
      rw [eM]
      clear eM M'
      obtain ⟨n, hn, rfl⟩ := str_at hd
      have hnp := hin n (List.mem_of_getElem? hn)
      have et : ns.take (i + 1) = ns.take i ++ [n] := by rw [List.take_add_one, hn]; rfl
      have okA := (hall (ns.take i) fun s hs => hin s (List.mem_of_mem_take hs)).1
      rw [et, List.foldl_append]
      show gN 4 (D.str n) _ _ _
      have okn := getT_ok ok hnp
      generalize (ns.take i).foldl (accR rs) [] = A at *
      walk_at "go"
      refine getF_use rfl rfl (val_kdR hnp) ?_
      have eg : [n].foldl (accR rs) A = (getT rs n).foldl putz A := rfl
      rw [eg]
      generalize getT rs n = ps at *
      walk_at "go"
      refine forL_inv (fun j env M' => ∃ e6 e7, env = [some (.fdc (kdR rs)), some (.lst (ns.map D.str)), e2, some (.cel M.length), some (.str n), e5, e6, e7] ∧ M' = M ++ [.dct (kdI ((ps.take j).foldl putz A))] ∧ PairsOk ((ps.take j).foldl putz A)) ⟨_, _, by first | rfl | simp, rfl, okA⟩ ?_ ?_
      · rintro j d env M' hd ⟨e6, e7, rfl, eM, okB⟩
        rw [eM]
        clear eM M'
        obtain ⟨p, hp, rfl⟩ : ∃ p, ps[j]? = some p ∧ d = pD p := by
          rw [List.getElem?_map] at hd
          cases h : ps[j]? with
          | none => rw [h] at hd; cases hd
          | some p => rw [h] at hd; exact ⟨p, rfl, (Option.some.inj hd).symm⟩
        have hpm := List.mem_of_getElem? hp
        have et2 : ps.take (j + 1) = ps.take j ++ [p] := by rw [List.take_add_one, hp]; rfl
        have okC := putz_ok okB (okn.nm p hpm) (okn.nb p hpm)
        rw [et2, List.foldl_append]
        have eg2 : [p].foldl putz ((ps.take j).foldl putz A) = putz ((ps.take j).foldl putz A) p := rfl
        rw [eg2]
        generalize (ps.take j).foldl putz A = C at *
        have lB := ok_len okB
        have lk : (kdI C).length ≤ 7 := by unfold kdI; rw [List.length_map]; exact lB
        obtain ⟨s, x⟩ := p
        by_cases hx : x = 0
        · have ez : putz C (s, x) = C := by rw [hx]; rfl
          rw [ez] at okC ⊢
          walk_at "go"
          exact ⟨_, _, rfl, rfl, okC⟩
        · have ez : putz C (s, x) = put1 C (s, x) := if_pos hx
          rw [ez] at okC ⊢
          rw [← put_kdI]
          walk_at "go"
          refine dput_last rfl rfl (by rw [line16]; omega) ?_
          walk_at "go"
          exact ⟨_, _, rfl, rfl, okC⟩
      · rintro env M' ⟨e6, e7, rfl, eM, _⟩
        rw [List.length_map, List.take_length] at eM
        exact ⟨_, _, _, rfl, eM⟩
    · rintro env M' ⟨e4, e6, e7, rfl, eM⟩
      rw [List.length_map, List.take_length] at eM
      exact hK _ _ ⟨_, _, _, rfl, eM⟩
  rintro env M' ⟨e4, e6, e7, rfl, eM⟩
  rw [eM]
  clear eM M'
  obtain ⟨okA, eu, hz⟩ := hall ns hin
  have eu : uni (tld rs) ns = canon (ns.foldl (accR rs) []) := eu
  rw [eu] at k
  generalize ns.foldl (accR rs) [] = A at *
  have lA := ok_len okA
  have efil : A.filter nz = A := List.filter_eq_self.mpr fun p hp => decide_eq_true (hz p hp)
  have hdM : (M ++ [D.dct (kdI A)]).set M.length .non = M ++ [.non] := by rw [List.set_append_right _ _ (Nat.le_refl _)]; simp
  have hgM : (M ++ [D.dct (kdI A)])[M.length]? = some (.dct (kdI A)) := by simp
  show wLkD 3 _ _ _ _
  unfold wLkD
  show (match (M ++ [D.dct (kdI A)])[M.length]? with | some (.dct ks) => _ | _ => False)
  rw [hgM, hdM]
  have he : ([some (.fdc (kdR rs)), some (.lst (ns.map D.str)), e2, some (.cel M.length), e4, e5, e6, e7] : Ev).map (unCel (.cel M.length) (.fdc (kdI A))) = [some (.fdc (kdR rs)), some (.lst (ns.map D.str)), unCel (.cel M.length) (.fdc (kdI A)) e2, some (.fdc (kdI A)), unCel (.cel M.length) (.fdc (kdI A)) e4, unCel (.cel M.length) (.fdc (kdI A)) e5, unCel (.cel M.length) (.fdc (kdI A)) e6, unCel (.cel M.length) (.fdc (kdI A)) e7] := by
    simp only [List.map_cons, List.map_nil]
    rw [show unCel (.cel M.length) (.fdc (kdI A)) (some (.cel M.length)) = some (.fdc (kdI A)) from if_pos rfl]
    rfl
  show wRet _ _ (List.map _ _) _
  rw [he]
  generalize unCel (.cel M.length) (.fdc (kdI A)) e2 = u2
  generalize unCel (.cel M.length) (.fdc (kdI A)) e4 = u4
  generalize unCel (.cel M.length) (.fdc (kdI A)) e5 = u5
  generalize unCel (.cel M.length) (.fdc (kdI A)) e6 = u6
  generalize unCel (.cel M.length) (.fdc (kdI A)) e7 = u7
  have ek : ((kdI A).map fun p => kD p.1) = (A.map (·.1)).map D.str := by
    unfold kdI
    rw [List.map_map, List.map_map]; rfl
  walk_at "go"
  rw [ek]
  refine lcL_map (fun d => match d with | .str s => .tup [.str s, .int (getN A s)] | d => d) _ _ (by rw [line16, List.length_map, List.length_map]; omega) (fun d hd C hC => ?_) ?_
  · obtain ⟨s, hs, rfl⟩ := List.mem_map.mp hd
    have hC' : C (.tup [.str s, .int (getN A s)]) (M ++ [.non]) := hC
    clear hC
    walk_at "go"
    refine getF_use rfl rfl (val_kdI_some hs) ?_
    walk_at "go"
    exact hC'
  · have em : ((A.map (·.1)).map D.str).map (fun d => match d with | .str s => .tup [.str s, .int (getN A s)] | d => d) = A.map pD := by
      rw [List.map_map, List.map_map]
      refine List.map_congr_left fun p hp => ?_
      show D.tup [.str p.1, .int (getN A p.1)] = pD p
      rw [getN_mem okA.nd hp]; rfl
    rw [em]
    walk_at "go"
    refine sortP_use rfl fun qs hp ha => ?_
    walk_at "go"
    have eq : qs = canon A := canon_of (by rw [efil]; exact hp) ha
    have ht : (M ++ [D.non]).take M.length = M := List.take_left' rfl
    refine .less (by simp [noCel, noCels, noC_pD]) ?_ ?_
    · rw [ht]; exact hM
    · rw [ht, eq]; exact k

/-! _law_found: 0 _law_given, 1 e -/
abbrev p_law_found : List Str := ["_law_given"]
@[irreducible] def sp_law_found : DSp := fun ds M R _ => ∃ ps : Parts, ds = [.dct (kdS ps)] ∧ PartsOk ps ∧ R (resD ps) M
theorem len_law_found : ∀ ds M R RX, sp_law_found ds M R RX → ds.length = p_law_found.length := by
  unfold sp_law_found; rintro ds M R RX ⟨_, rfl, _⟩; rfl
theorem use_law_found {ps : Parts} {M : Mt} {R RX} (h1 : PartsOk ps) (k : R (resD ps) M) : sp_law_found [.dct (kdS ps)] M R RX := by
  unfold sp_law_found; exact ⟨ps, rfl, h1, k⟩
def w_law_found (RX : RXe) : WS :=
  (wTryCls ["Clash"] [((fun n => decide (n = "Clash")), some 1, fun a n fs => (wSeq (wIfS (wOrT (wTru (wCB (cIsX a [("FieldClash", false)]) (wCons (wVar 1) (wCons (wC (.cls "FieldClash")) wNil)))) (wNotT (wTru (wCB (cIsX a [("OrError", true)]) (wCons (wVar 1) (wCons (wC (.cls "OrError")) wNil)))))) (wRet (wTup (wCons (wC (.str "odd")) (wCons (wC .non) wNil)))) wSkip)
    (wRet (wTup (wCons (wC (.str "clash")) (wCons (wTup (wCons (wXf a fs "lesser" (wVar 1)) (wCons (wXf a fs "name" (wVar 1)) wNil))) wNil))))))] (fun RX => (wRet (wTup (wCons (wC (.str "made")) (wCons (wFgt (wFld "Signals" "told" (wCallX sp_merged [] RX (wCons (wVar 0) wNil)))) wNil))))) RX)
theorem wp_law_found : ∀ ds M R RX, sp_law_found ds M R RX → M.all (cellOk M.length) = true → noCels M.length ds = true → w_law_found (fun nm fs _ M' => rxF M.length RX nm fs M') (fnEnds M.length R) (startE 2 ds) M := by
  unfold sp_law_found; rintro ds M R RX ⟨ps, rfl, ok, k⟩ hM hds
  unfold resD at k
  walk_at "go"
  refine use_merged ok ?_
  unfold resM
  cases hc : fstC (cl ps) [] (srt (ps.map (·.1))) with
  | none =>
    rw [hc] at k
    walk_at "go"
    exact .keep k
  | some x =>
    rw [hc] at k
    walk_at "go"
    all_goals first | exact absurd trivial ‹¬True› | exact .keep k
/-! law: 0 _law_script, 1 _law_pen_here, 2 _law_turn, 3 _law_labels, 4 _law_shares, 5 _law_calm, 6 _law_known, 7 _law_k, 8 _law_given, 9 _law_label, 10 _law_due_here, 11 _law_turned, 12 _law_pairs_here, 13 _law_name, 14 _law_number -/
abbrev p_law : List Str := ["_law_script"]
theorem dput_at {M : Mt} {ks : List (Key × D)} {y d : D} {j : Key} {R : Mt → Prop} {n : Nat} (hn : M[n]? = some (.dct ks)) (hk : keyD y = some j) (hl : ks.length < sizeLine) (k : R (M.set n (.dct (putD ks j d)))) : dput (.cel n) y d M R := by
  unfold dput
  simp only [hn, hk]; exact ⟨⟨hl⟩, k⟩
def LAB : List Str := ["read", "b1", "write", "a", "z", "m2", "kind"]
theorem lab_nd : LAB.Nodup := by decide +kernel
theorem lab_ok : ∀ s ∈ LAB, PyData.strOk s = true := by decide +kernel
theorem itC_cel {i : Nat} {l : List D} {w : WE} {g : WG} {b : WS} {k : DEnds} {env : Ev} {M : Mt} (h : ∀ K : D → Mt → Prop, K (.cel i) M → w env M K) (hm : M[i]? = some (.lst l)) (q : forLC (fun M => M[i]? = some (.lst l)) g b k l env M) : wForC (wItC w) g b k env M := by
  unfold wForC wItC
  refine h _ ?_
  show (match M[i]? with | some (.lst l) => _ | _ => False)
  rw [hm]
  exact q
theorem set_neg1 {M : Mt} {n : Nat} {l : List D} {d : D} {Q : Mt → Prop} (h : M[n]? = some (.lst l)) (h1 : 1 ≤ l.length) (k : Q (M.set n (.lst (l.set (l.length - 1) d)))) : dsetIx d (.cel n) (.int (-1)) M Q := by
  have e : ixN l.length (-1) = some (l.length - 1) := by
    unfold ixN
    rw [if_neg (by decide), if_pos (by omega)]
    congr 1; omega
  simp only [dsetIx, h, e]; exact k
theorem at_neg1 {l : List D} {d : D} (h1 : 1 ≤ l.length) (h : l[l.length - 1]? = some d) : L2.atI l (-1) = some d := by
  unfold L2.atI ixN
  rw [if_neg (by decide), if_pos (by omega)]
  show l[_]? = _
  rw [show (-1 + (l.length : Int)).toNat = l.length - 1 from by omega]; exact h
theorem set_pairs {q : PL} {n : Nat} {s : Str} {x v : Int} (ok : PairsOk q) (h : q[n]? = some (s, x)) (hv : 0 ≤ v ∧ v ≤ 1000000000) : PairsOk (q.set n (s, v)) := by
  have hn := (List.getElem?_eq_some_iff.mp h)
  refine ⟨?_, fun p hp => ?_, fun p hp => ?_⟩
  · rw [List.map_set]
    have : (q.map (·.1)).set n s = q.map (·.1) := by
      refine List.ext_getElem? fun m => ?_
      by_cases e : n = m
      · subst e
        rw [List.getElem?_set_self (by rw [List.length_map]; exact hn.1), List.getElem?_map, h]; rfl
      · rw [List.getElem?_set_ne e]
    rw [this]; exact ok.nd
  · rcases List.mem_or_eq_of_mem_set hp with z | z
    · exact ok.nm p z
    · rw [z]; exact ok.nm (s, x) (List.mem_of_getElem? h)
  · rcases List.mem_or_eq_of_mem_set hp with z | z
    · exact ok.nb p z
    · rw [z]; exact hv
theorem listK_use {x : D} {ks : List (Key × D)} {M : Mt} {R : D → Mt → Prop} (h : viewD M x = .dct ks ∨ viewD M x = .fdc ks) (k : R (.lst (ks.map fun p => kD p.1)) M) : cListA false [x] M R := by
  rcases h with h | h <;> (simp only [cListA, h]; exact k)
theorem viewK_at {M : Mt} {i : Nat} {ks : List (Key × D)} (h : M[i]? = some (.dct ks)) : viewD M (.cel i) = .dct ks := by simp only [viewD, h]
theorem lab_free {ns : List Str} (hn : ns.length ≤ 6) : 1 ≤ (LAB.filter fun s => !decide (s ∈ ns)).length := by
  by_cases h : (LAB.filter fun s => !decide (s ∈ ns)) = []
  · exfalso
    have hall : ∀ s ∈ LAB, s ∈ ns := fun s hs => by
      have := List.filter_eq_nil_iff.mp h s hs
      simpa using this
    have := sub_len lab_nd hall
    have e : LAB.length = 7 := by decide +kernel
    omega
  · cases e : (LAB.filter fun s => !decide (s ∈ ns)) with
    | nil => exact absurd e h
    | cons a r => simp
theorem put_newR {rs : Parts} {s : Str} {t : PL} (h : s ∉ rs.map (·.1)) : putD (kdR rs) (Sum.inr s) (.lst (t.map pD)) = kdR (rs ++ [(s, t)]) := by
  unfold putD
  rw [if_neg]
  · simp [kdR]
  · intro z
    obtain ⟨p, hp, e⟩ := List.any_eq_true.mp z
    unfold kdR at hp
    obtain ⟨q, hq, rfl⟩ := List.mem_map.mp hp
    have e := of_decide_eq_true e
    have : q.1 = s := by cases e; rfl
    exact h (List.mem_map.mpr ⟨q, hq, this⟩)
theorem put_newS {rs : Parts} {s : Str} {t : PL} (h : s ∉ rs.map (·.1)) : putD (kdS rs) (Sum.inr s) (sig t) = kdS (rs ++ [(s, t)]) := by
  unfold putD
  rw [if_neg]
  · simp [kdS]
  · intro z
    obtain ⟨p, hp, e⟩ := List.any_eq_true.mp z
    unfold kdS at hp
    obtain ⟨q, hq, rfl⟩ := List.mem_map.mp hp
    have e := of_decide_eq_true e
    have : q.1 = s := by cases e; rfl
    exact h (List.mem_map.mpr ⟨q, hq, this⟩)
theorem val_getD (ps : PL) (s : Str) (x : Int) : ((valD (kdI ps) (Sum.inr s)).getD (.int x)) = .int ((ps.lookup s).getD x) := by
  induction ps with
  | nil => simp [kdI, valD]
  | cons a r ih =>
    obtain ⟨a1, a2⟩ := a
    by_cases e : s = a1
    · subst e; simp [kdI, valD, List.lookup_cons]
    · have e3 : (s == a1) = false := by simpa using e
      have ne : decide ((Sum.inr a1 : Key) = Sum.inr s) = false := decide_eq_false fun z => e (by cases z; rfl)
      simp only [kdI, List.map_cons, valD] at ih ⊢
      rw [List.find?_cons, ne, List.lookup_cons, e3]
      exact ih
/-- the numbers that are known are taken over -/
def knw (kn ps : PL) : PL := ps.map fun p => (p.1, (kn.lookup p.1).getD p.2)
theorem knw_ok {kn ps : PL} (h1 : PairsOk kn) (h2 : PairsOk ps) : PairsOk (knw kn ps) := ⟨by unfold knw; rw [List.map_map]; exact h2.nd, fun p hp => by
  obtain ⟨q, hq, rfl⟩ := List.mem_map.mp hp
  exact h2.nm q hq, fun p hp => by
  obtain ⟨q, hq, rfl⟩ := List.mem_map.mp hp
  show 0 ≤ (kn.lookup q.1).getD q.2 ∧ (kn.lookup q.1).getD q.2 ≤ 1000000000
  cases e : kn.lookup q.1 with
  | none => exact h2.nb q hq
  | some i => exact h1.nb (q.1, i) ((look_nd h1.nd).mp e)⟩
theorem app_get {Z T : Mt} {c : Nat} {x : D} (h : Z[c]? = some x) : (Z ++ T)[c]? = some x := by
  rw [List.getElem?_append_left (List.getElem?_eq_some_iff.mp h).1]; exact h
theorem set_get {Z : Mt} {c : Nat} {x y : D} (h : Z[c]? = some x) : (Z.set c y)[c]? = some y := List.getElem?_set_self (List.getElem?_eq_some_iff.mp h).1
theorem set_getN {Z : Mt} {c d : Nat} {x y : D} (h : Z[d]? = some x) (ne : c ≠ d) : (Z.set c y)[d]? = some x := by rw [List.getElem?_set_ne ne]; exact h
theorem frz_lst {M : Mt} {c : Nat} {l : List D} {R : D → Mt → Prop} (h : M[c]? = some (.lst l)) (q : R (.lst l) (M.set c .non)) : frz (.cel c) M R := by
  simp only [frz, h]; exact q
theorem frz_dct {M : Mt} {c : Nat} {l : List (Key × D)} {R : D → Mt → Prop} (h : M[c]? = some (.dct l)) (q : R (.dct l) (M.set c .non)) : frz (.cel c) M R := by
  simp only [frz, h]; exact q
theorem unc_eq {n : Nat} {d' : D} : unCel (.cel n) d' (some (.cel n)) = some d' := if_pos rfl
theorem unc_ne {n m : Nat} {d' : D} (h : m ≠ n) : unCel (.cel n) d' (some (.cel m)) = some (.cel m) := if_neg h
theorem unc_lst {l : List D} {d' : D} : ∀ e : Option D, unCel (.lst l) d' e = e
  | none => rfl
  | some d => by cases d <;> rfl
theorem unc_map {l : List D} {d' : D} (env : Ev) : env.map (unCel (.lst l) d') = env := by
  rw [show unCel (.lst l) d' = id from funext fun e => unc_lst e, List.map_id]
theorem lkD_step {i n : Nat} {ks : List (Key × D)} {w : WS} {k : DEnds} {env : Ev} {M : Mt} (h : env[i]? = some (some (.cel n))) (hm : M[n]? = some (.dct ks)) (q : w k (env.map (unCel (.cel n) (.fdc ks))) (M.set n .non)) : wLkD i w k env M := by
  unfold wLkD
  rw [h]
  show (match M[n]? with | some (.dct ks) => _ | _ => False)
  rw [hm]; exact q
theorem fstC_mem {c : Str → Str → Bool} {l n : Str} : ∀ (rest seen : List Str), fstC c seen rest = some (l, n) → (l ∈ seen ∨ l ∈ rest) ∧ n ∈ rest
  | [], seen, h => by cases h
  | a :: r, seen, h => by
    rw [fstC_cons] at h
    split at h
    · rename_i x hx
      cases h
      exact ⟨.inl (List.mem_of_find?_eq_some hx), List.mem_cons_self⟩
    · obtain ⟨h1, h2⟩ := fstC_mem r _ h
      refine ⟨?_, List.mem_cons_of_mem _ h2⟩
      rcases h1 with h1 | h1
      · rcases List.mem_append.mp h1 with h1 | h1
        · exact .inl h1
        · exact .inr (by have : l = a := by simpa using h1
                         rw [this]; exact List.mem_cons_self)
      · exact .inr (List.mem_cons_of_mem _ h1)
theorem view_resD (M : Mt) (ps : Parts) : viewD M (resD ps) = resD ps := by unfold resD; split <;> rfl
theorem sh_res {ps : Parts} (ok : PartsOk ps) (h : ∀ s ∈ ps.map (·.1), PyData.strOk s = true) : ShD (resD ps) := by
  unfold resD
  split
  · rename_i x hx
    obtain ⟨l, n⟩ := x
    obtain ⟨h1, h2⟩ := fstC_mem _ _ hx
    have h1 : l ∈ srt (ps.map (·.1)) := h1.resolve_left (fun z => by cases z)
    have e1 := h l ((srt_perm _).subset h1)
    have e2 := h n ((srt_perm _).subset h2)
    refine ⟨.tuple [.str "clash", .tuple [.str l, .str n]], rfl, ?_⟩
    have e3 : PyData.strOk (Str.ofString "clash") = true := by decide +kernel
    simp [SeqAt.shaped, PyData.canLay0, PyData.canLayAll0, PyData.depth, PyData.depthAll, e1, e2, e3]
  · have oku := uni_ok ok (ns := srt (ps.map (·.1))) fun s hs => (srt_perm _).subset hs
    generalize uni ps (srt (ps.map (·.1))) = t at *
    refine ⟨.tuple [.str "made", .tuple (t.map pP)], by simp [toP, toPs, toPs_pD], ?_⟩
    have e3 : PyData.strOk (Str.ofString "made") = true := by decide +kernel
    have := dep_pD t
    simp [SeqAt.shaped, PyData.canLay0, PyData.canLayAll0, PyData.depth, PyData.depthAll, e3, lay_pD fun p hp => oku.nm p hp]; omega
theorem sh_strs {l : List Str} (h : ∀ s ∈ l, PyData.strOk s = true) : ShD (.lst (l.map D.str)) := ⟨.list (l.map PyData.str), by simp [toP, toPs_strs], shaped_map (fun s hs => by simp only [PyData.canLay0]; exact h s hs) fun _ _ => Nat.zero_le _⟩
theorem getT_perm {ps qs : Parts} (nd : (ps.map (·.1)).Nodup) (h : qs.Perm ps) (s : Str) : getT qs s = getT ps s := by
  have nd2 : (qs.map (·.1)).Nodup := (h.map (·.1)).nodup_iff.mpr nd
  by_cases hs : s ∈ ps.map (·.1)
  · obtain ⟨p, hp, rfl⟩ := List.mem_map.mp hs
    rw [getT_mem nd hp, getT_mem nd2 (h.symm.subset hp)]
  · have hs2 : s ∉ qs.map (·.1) := fun z => hs ((h.map (·.1)).subset z)
    have no : ∀ {l : Parts}, s ∉ l.map (·.1) → getT l s = [] := fun {l} hl => by
      unfold getT
      rw [List.lookup_eq_none_iff.mpr]
      · rfl
      · intro q hq
        have : q.1 ≠ s := fun z => hl (List.mem_map.mpr ⟨q, hq, z⟩)
        simpa using Ne.symm this
    rw [no hs, no hs2]
theorem resD_perm {ps qs : Parts} (nd : (ps.map (·.1)).Nodup) (h : qs.Perm ps) : resD qs = resD ps := by
  have e1 : srt (qs.map (·.1)) = srt (ps.map (·.1)) := srt_eq (h.map (·.1))
  have e2 : cl qs = cl ps := by funext a b; unfold cl; rw [getT_perm nd h, getT_perm nd h]
  have e3 : uni qs = uni ps := by
    funext ns; unfold uni
    have : (fun (F : PL) s => canon (mrg (F ++ getT qs s))) = fun F s => canon (mrg (F ++ getT ps s)) := by funext F s; rw [getT_perm nd h]
    rw [this]
  unfold resD
  rw [e1, e2, e3]
theorem parts_perm {ps qs : Parts} (ok : PartsOk ps) (h : qs.Perm ps) : PartsOk qs := ⟨(h.map (·.1)).nodup_iff.mpr ok.nd, fun p hp => ok.ok p (h.subset hp), by rw [h.length_eq]; exact ok.len⟩
theorem srt_one (s : Str) : srt [s] = [s] := List.perm_singleton.mp (srt_perm [s])
theorem resD_one {s : Str} {t : PL} (ok : PairsOk t) (hc : canon t = t) : resD [(s, t)] = .tup [.str "made", .tup (t.map pD)] := by
  have e1 : srt (([(s, t)] : Parts).map (·.1)) = [s] := srt_one s
  have e2 : uni [(s, t)] [s] = t := by
    show canon (mrg ([] ++ getT [(s, t)] s)) = t
    have : getT [(s, t)] s = t := by simp [getT, List.lookup_cons]
    rw [this, List.nil_append, mrg_nd ok.nd, hc]
  unfold resD
  rw [e1]
  show D.tup [.str "made", .tup ((uni [(s, t)] [s]).map pD)] = _
  rw [e2]
theorem resD_nil : resD [] = .tup [.str "made", .tup []] := by
  have e1 : srt ((([] : Parts)).map (·.1)) = [] := by
    show (canon []).map _ = _
    rw [canon_nil]; rfl
  unfold resD
  rw [e1]; rfl
theorem disp_one {s : Str} {t : PL} : mergeD [] [((Sum.inr s : Key), sig t)] = kdS [(s, t)] := rfl
theorem revL_use {d : D} {l : List D} {M : Mt} {R : D → Mt → Prop} (h : lstD (viewD M d) = some l) (k : R (.lst l.reverse) M) : oRevL d M R := by
  simp only [oRevL, h]; exact k
theorem unc_resD {n : Nat} {d' : D} (ps : Parts) : unCel (.cel n) d' (some (resD ps)) = some (resD ps) := by unfold resD; split <;> rfl
@[irreducible] def sp_law : DSp := fun ds M R _ => ∃ ns : List Int, ds = [.rol (ns.map D.int)] ∧ M = [] ∧ ∀ M, R (.bl true) M
theorem len_law : ∀ ds M R RX, sp_law ds M R RX → ds.length = p_law.length := by
  unfold sp_law; rintro ds M R RX ⟨_, rfl, _⟩; rfl
theorem law_start (ns : List Int) (hl : ns.length ≤ 63) (R : D → Mt → Prop) (RX : RXt) (h : ∀ M, R (.bl true) M) : sp_law [.rol (ns.map D.int)] [] R RX := by
  unfold sp_law; exact ⟨ns, rfl, rfl, h⟩
def w_law (RX : RXe) : WS :=
  (wSeq (wAsg (wCall sp_law_pen [] RX0 (wCons (wVar 0) wNil)) (gN 1))
    (wSeq (wFor (wRng1 (wCons (wC (.int 3)) wNil)) (gN 2) (wSeq (wAsg (wLst (wCons (wC (.str "read")) (wCons (wC (.str "b1")) (wCons (wC (.str "write")) (wCons (wC (.str "a")) (wCons (wC (.str "z")) (wCons (wC (.str "m2")) (wCons (wC (.str "kind")) wNil)))))))) (gN 3))
    (wSeq (wAsg (wDict0 true) (gN 4))
    (wSeq (wAsg (wOp (oEqI fun b => b) (wCall sp_law_draw [] RX0 (wCons (wVar 1) (wCons (wC (.int 2)) wNil))) (wC (.int 0))) (gN 5))
    (wSeq (wAsg (wDict0 true) (gN 6))
    (wSeq (wFor (wRng1 (wCons (wCall sp_law_draw [] RX0 (wCons (wVar 1) (wCons (wC (.int 7)) wNil))) wNil)) (gN 7) (wSeq (wAsg (wCall sp_law_pick [] RX0 (wCons (wVar 1) (wCons (wLc (wIt (wVar 3)) [9] (wTest (wOp (oIn true) (wVar 9) (wCB (cListA false) (wCons (wVar 4) wNil)))) (wVar 9) [9]) wNil))) (gN 9))
    (wSeq (wAsg (wCall sp_law_pairs [] RX0 (wCons (wVar 1) (wCons (wC (.int 4)) wNil))) (gN 12))
    (wSeq (wIfS (wTru (wVar 5)) (wSeq (wSetLc 12 (wLcM (wIt (wVar 12)) [13, 14] wYes (wTup (wCons (wVar 13) (wCons (wGet2 (wVar 6) (wVar 13) (wVar 14)) wNil))) [13, 14]))
    (wForC (wItC (wVar 12)) (gT 2 (gsCons (gN 13) (gsCons (gN 14) gsNil))) (wDPut (wVar 6) (wVar 13) (wVar 14)))) wSkip)
    (wSeq (wIfS (wAndT (wTru (wVar 5)) (wAndT (wTest (wOp (oEqI fun b => b) (wCall sp_law_draw [] RX0 (wCons (wVar 1) (wCons (wC (.int 9)) wNil))) (wC (.int 0)))) (wTest (wOp (oEqI fun b => !b) (wVar 12) (wLst wNil))))) (wAsg (wTup (wCons (wOp oIx (wOp oIx (wVar 12) (wNeg (wC (.int 1)))) (wC (.int 0))) (wCons (wOp oMod (wCB cInt (wCons (wOp oAdd (wOp oIx (wOp oIx (wVar 12) (wNeg (wC (.int 1)))) (wC (.int 1))) (wC (.int 1))) wNil)) (wC (.int 1000000000))) wNil))) (gIxL (wVar 12) (wNeg (wC (.int 1))))) wSkip)
    (wFrz 12 (wDPut (wVar 4) (wVar 9) (wVar 12))))))))
    (wSeq (wAsg (wDict0 true) (gN 8))
    (wSeq (wLkD 4 (wFor (wItF (wVar 4)) (gN 9) (wDPut (wVar 8) (wVar 9) (wCMeth "Signals" sp_Signals_of RX (wC (.cls "Signals")) (wCons (wOp oDGet (wVar 4) (wVar 9)) wNil)))))
    (wSeq (wFrz 8 (wAsg (wCall sp_law_due [] RX0 (wCons (wVar 4) wNil)) (gN 10)))
    (wSeq (wIfS (wOrT (wTest (wOp (oEqI fun b => !b) (wCallX sp_law_found [] RX (wCons (wVar 8) wNil)) (wVar 10))) (wOrT (wTest (wOp (oEqI fun b => !b) (wCallX sp_law_found [] RX (wCons (wVar 8) wNil)) (wVar 10))) (wTest (wOp (oEqI fun b => !b) (wCB (cListA false) (wCons (wVar 8) wNil)) (wCB (cListA false) (wCons (wVar 4) wNil)))))) (wRet (wC (.bl false))) wSkip)
    (wSeq (wIfS (wTest (wOp (oEqI fun b => !b) (wLc (wItF (wVar 4)) [9] (wTest (wOp (oEqI fun b => !b) (wFgt (wFld "Signals" "told" (wOp oDGet (wVar 8) (wVar 9)))) (wCall sp_law_due_of [] RX0 (wCons (wOp oDGet (wVar 4) (wVar 9)) wNil)))) (wVar 9) [9]) (wLst wNil))) (wRet (wC (.bl false))) wSkip)
    (wSeq (wAsg (wDict0 true) (gN 11))
    (wSeq (wFor (wIt (wRevL (wCB (cListA false) (wCons (wVar 4) wNil)))) (gN 9) (wDPut (wVar 11) (wVar 9) (wOp oDGet (wVar 8) (wVar 9))))
    (wSeq (wFrz 11 (wIfS (wTest (wOp (oEqI fun b => !b) (wCallX sp_law_found [] RX (wCons (wVar 11) wNil)) (wVar 10))) (wRet (wC (.bl false))) wSkip))
    (wFor (wItF (wVar 4)) (gN 9) (wIfS (wTest (wOp (oEqI fun b => !b) (wCallX sp_law_found [] RX (wCons (wDisp [((wVar 9), (wOp oDGet (wVar 8) (wVar 9)))]) wNil)) (wTup (wCons (wC (.str "made")) (wCons (wFgt (wFld "Signals" "told" (wOp oDGet (wVar 8) (wVar 9)))) wNil))))) (wRet (wC (.bl false))) wSkip))))))))))))))))
    (wRet (wOp (oEqI fun b => b) (wCallX sp_law_found [] RX (wCons (wDict0 false) wNil)) (wTup (wCons (wC (.str "made")) (wCons (wTup wNil) wNil)))))))
theorem pr_pD : pr = pD := rfl
theorem wp_law : ∀ ds M R RX, sp_law ds M R RX → M.all (cellOk M.length) = true → noCels M.length ds = true → w_law (fun nm fs _ M' => rxF M.length RX nm fs M') (fnEnds M.length R) (startE 15 ds) M := by
  unfold sp_law; rintro ds M R RX ⟨ns, rfl, rfl, k⟩ _ _
  obtain ⟨L, hL⟩ : ∃ L, L = LAB := ⟨_, rfl⟩
  have lfree : ∀ ns : List Str, ns.length ≤ 6 → 1 ≤ (L.filter fun s => !decide (s ∈ ns)).length := fun ns h => by rw [hL]; exact lab_free h
  have llen : L.length = 7 := by rw [hL]; decide +kernel
  have lok : ∀ s ∈ L, PyData.strOk s = true := by rw [hL]; exact lab_ok
  walk_at "go"
  refine use_law_pen fun b hb => ?_
  walk_at "go"
  generalize ns.map D.int = l0
  refine forL_inv (fun i env M => ∃ b M2 e2 e3 e4 e5 e6 e7 e8 e9 e10 e11 e12 e13 e14, env = [some (.rol l0), some (.cel 0), e2, e3, e4, e5, e6, e7, e8, e9, e10, e11, e12, e13, e14] ∧ M = b :: M2 ∧ PenOk (1000 * i) b)
    ⟨b, [], _, _, _, _, _, _, _, _, _, _, _, _, _, rfl, rfl, by simpa using hb⟩ ?_ ?_
  · rintro i d env M hd ⟨b, M2, e2, e3, e4, e5, e6, e7, e8, e9, e10, e11, e12, e13, e14, rfl, rfl, hb⟩
    obtain ⟨hi, rfl⟩ := range_get hd
    clear hd
    have hi : i < 3 := hi
    dsimp only [gN]
    obtain ⟨c, hc⟩ : ∃ c, c = M2.length := ⟨_, rfl⟩
    -- labels, shares, calm, known
    refine seq_cut (fun env M => env = [some (.rol l0), some (.cel 0), some (.int (0 + (i : Int))), some (.lst (L.map D.str)), e4, e5, e6, e7, e8, e9, e10, e11, e12, e13, e14] ∧ M = b :: M2) ?_ ?_
    · intro K hK
      walk_at "go"
      exact hK _ _ ⟨by rw [hL]; rfl, rfl⟩
    rintro env M ⟨rfl, rfl⟩
    clear hL
    refine seq_cut (fun env M => env = [some (.rol l0), some (.cel 0), some (.int (0 + (i : Int))), some (.lst (L.map D.str)), some (.cel (c + 1)), e5, e6, e7, e8, e9, e10, e11, e12, e13, e14] ∧ M = b :: (M2 ++ [.dct (kdR [])])) ?_ ?_
    · intro K hK
      walk_at "go"
      exact hK _ _ ⟨by rw [hc]; rfl, rfl⟩
    rintro env M ⟨rfl, rfl⟩
    refine seq_cut (fun env M => ∃ (calm : Bool) (b : D), env = [some (.rol l0), some (.cel 0), some (.int (0 + (i : Int))), some (.lst (L.map D.str)), some (.cel (c + 1)), some (.bl calm), e6, e7, e8, e9, e10, e11, e12, e13, e14] ∧ M = b :: (M2 ++ [.dct (kdR [])]) ∧ PenOk (1000 * i + 1) b) ?_ ?_
    · intro K hK
      walk_at "go"
      refine use_law_draw hb (by omega) (by omega) (by omega) fun dr b h0 h1 hb => ?_
      walk_at "go"
      exact hK _ _ ⟨_, b, rfl, rfl, hb⟩
    clear hb
    rintro env M ⟨calm, b, rfl, rfl, hb⟩
    refine seq_cut (fun env M => env = [some (.rol l0), some (.cel 0), some (.int (0 + (i : Int))), some (.lst (L.map D.str)), some (.cel (c + 1)), some (.bl calm), some (.cel (c + 2)), e7, e8, e9, e10, e11, e12, e13, e14] ∧ M = b :: (M2 ++ [.dct (kdR []), .dct (kdI [])])) ?_ ?_
    · intro K hK
      walk_at "go"
      exact hK _ _ ⟨by rw [hc]; simp, by simp; rfl⟩
    rintro env M ⟨rfl, rfl⟩
    -- the shares
    refine seq_cut (fun env M => ∃ (rs : Parts) (b : D) (Z : Mt) (e6 e7 e8 e9 e10 e11 e12 e13 e14 : Option D), env = [some (.rol l0), some (.cel 0), some (.int (0 + (i : Int))), some (.lst (L.map D.str)), some (.cel (c + 1)), some (.bl calm), e6, e7, e8, e9, e10, e11, e12, e13, e14] ∧ M = b :: Z ∧ Z[c]? = some (.dct (kdR rs)) ∧ PartsOk rs ∧ PenOk (1000 * i + 400) b ∧ ∀ s ∈ rs.map (·.1), s ∈ L) ?_ ?_
    · intro K hK
      walk_at "go"
      refine use_law_draw hb (by omega) (by omega) (by omega) fun dr b h0 h1 hb => ?_
      walk_at "go"
      refine forL_inv (fun j env M => ∃ (rs : Parts) (kn : PL) (b : D) (Z : Mt) (e7 e8 e9 e10 e11 e12 e13 e14 : Option D), env = [some (.rol l0), some (.cel 0), some (.int (0 + (i : Int))), some (.lst (L.map D.str)), some (.cel (c + 1)), some (.bl calm), some (.cel (c + 2)), e7, e8, e9, e10, e11, e12, e13, e14] ∧ M = b :: Z ∧ Z[c]? = some (.dct (kdR rs)) ∧ Z[c + 1]? = some (.dct (kdI kn)) ∧ PartsOk rs ∧ PairsOk kn ∧ PenOk (1000 * i + 2 + 50 * j) b ∧ rs.length = j ∧ ∀ s ∈ rs.map (·.1), s ∈ L)
        ⟨[], [], b, _, _, _, _, _, _, _, _, _, rfl, rfl, by rw [hc]; simp, by rw [hc, List.getElem?_append_right (by omega)]; simp, ⟨by simp, fun p hp => (nomatch hp), by simp⟩, ok_nil, hb.mono (by omega), rfl, by simp⟩ ?_ ?_
      · rintro j d env M hd ⟨rs, kn0, b, Z, e7, e8, e9, e10, e11, e12, e13, e14, rfl, rfl, hz, hz1, okr, okk, hb, hrl, hlab⟩
        obtain ⟨hj, rfl⟩ := range_get hd
        clear hd
        have hj6 : j ≤ 5 := by omega
        dsimp only [gN]
        -- the label
        refine seq_cut (fun env M => ∃ (s : Str) (b : D), env = [some (.rol l0), some (.cel 0), some (.int (0 + (i : Int))), some (.lst (L.map D.str)), some (.cel (c + 1)), some (.bl calm), some (.cel (c + 2)), some (.int (0 + (j : Int))), e8, some (.str s), e10, e11, e12, e13, e14] ∧ M = b :: Z ∧ PenOk (1000 * i + 2 + 50 * j + 1) b ∧ s ∈ L ∧ s ∉ rs.map (·.1)) ?_ ?_
        · intro K hK
          have hv : viewD (b :: Z) (.cel (c + 1)) = .dct (kdR rs) := viewK_at (M := b :: Z) hz
          walk_at "go"
          have hl0 : ([] : List D).length + (L.map D.str).length ≤ sizeLine := by rw [line16, List.length_map, llen]; decide
          refine lcL_fun (fun d => match d with | .str s => !decide (s ∈ rs.map (·.1)) | _ => false) id _ _ _ hl0 (fun d hd A C hA hC => ?_) ?_
          · obtain ⟨s, hs, rfl⟩ := List.mem_map.mp hd
            have hA' : (!decide (s ∈ rs.map (·.1))) = true → A (.str s) (b :: Z) := hA
            have hC' : (!decide (s ∈ rs.map (·.1))) = false → C (b :: Z) := hC
            clear hA hC
            walk_at "go"
            rw [hv]
            show oIn true (.str s) (.lst ((kdR rs).map fun p => kD p.1)) _ _
            rw [keys_kdR]
            refine in_use (.inl rfl) ?_
            rw [if_pos rfl]
            by_cases h : s ∈ rs.map (·.1)
            · have hC2 := hC' (by rw [decide_eq_true h]; rfl)
              rw [decide_eq_true h]
              walk_at "go"
              exact hC2
            · have hA2 := hA' (by rw [decide_eq_false h]; rfl)
              rw [decide_eq_false h]
              walk_at "go"
              exact hA2
          · have ef : ([] : List D) ++ ((L.map D.str).filter (fun d => match d with | .str s => !decide (s ∈ rs.map (·.1)) | _ => false)).map id = (L.filter fun s => !decide (s ∈ rs.map (·.1))).map D.str := by
              rw [List.nil_append, List.map_id, List.filter_map]; rfl
            rw [ef]
            have hfree := lfree (rs.map (·.1)) (by rw [List.length_map]; omega)
            have hle : (L.filter fun s => !decide (s ∈ rs.map (·.1))).length ≤ 7 := by
              have := List.length_filter_le (fun s => !decide (s ∈ rs.map (·.1))) L
              omega
            walk_at "go"
            refine use_law_pick hb (by omega) (by rw [List.length_map]; exact hfree) (by rw [List.length_map]; omega) fun d b hd hb => ?_
            obtain ⟨s, hs, rfl⟩ := List.mem_map.mp hd
            obtain ⟨hs1, hs2⟩ := List.mem_filter.mp hs
            walk_at "go"
            exact hK _ _ ⟨s, b, rfl, rfl, hb, hs1, by simpa using hs2⟩
        clear hb
        rintro env M ⟨s, b, rfl, rfl, hb, hs1, hs2⟩
        refine seq_cut (fun env M => ∃ (ps : PL) (b : D), env = [some (.rol l0), some (.cel 0), some (.int (0 + (i : Int))), some (.lst (L.map D.str)), some (.cel (c + 1)), some (.bl calm), some (.cel (c + 2)), some (.int (0 + (j : Int))), e8, some (.str s), e10, e11, some (.lst (ps.map pD)), e13, e14] ∧ M = b :: Z ∧ PenOk (1000 * i + 2 + 50 * j + 41) b ∧ PairsOk ps) ?_ ?_
        · intro K hK
          walk_at "go"
          refine use_law_pairs hb (by omega) (by omega) (by omega) fun ps b okp _ hb => ?_
          rw [pr_pD]
          walk_at "go"
          exact hK _ _ ⟨ps, b, rfl, rfl, hb.mono (by omega), okp⟩
        clear hb
        rintro env M ⟨ps, b, rfl, rfl, hb, okp⟩
        have hcz : c + 1 < Z.length := (List.getElem?_eq_some_iff.mp hz1).1
        have hlk := ok_len okk
        have hlp := ok_len okp
        have hlr : (kdR rs).length ≤ 7 := by unfold kdR; rw [List.length_map]; exact okr.len
        have okrs : ∀ q : PL, PairsOk q → PartsOk (rs ++ [(s, q)]) := fun q hq => ⟨by
          rw [List.map_append, List.nodup_append]
          refine ⟨okr.nd, by simp, fun a ha b hb => ?_⟩
          have : b = s := by simpa using hb
          rw [this]; rintro rfl; exact hs2 ha, fun p hp => by
          rcases List.mem_append.mp hp with hp | hp
          · exact okr.ok p hp
          · have : p = (s, q) := by simpa using hp
            rw [this]; exact hq, by rw [List.length_append, List.length_singleton]; omega⟩
        have hlab2 : ∀ q : PL, ∀ x ∈ (rs ++ [(s, q)]).map (·.1), x ∈ L := fun q x hx => by
          rw [List.map_append] at hx
          rcases List.mem_append.mp hx with hx | hx
          · exact hlab x hx
          · have : x = s := by simpa using hx
            rw [this]; exact hs1
        cases calm with
        | false =>
          refine seq_cut (fun env M => env = [some (.rol l0), some (.cel 0), some (.int (0 + (i : Int))), some (.lst (L.map D.str)), some (.cel (c + 1)), some (.bl false), some (.cel (c + 2)), some (.int (0 + (j : Int))), e8, some (.str s), e10, e11, some (.lst (ps.map pD)), e13, e14] ∧ M = b :: Z) ?_ ?_
          · intro K hK
            walk_at "go"
            exact hK _ _ ⟨rfl, rfl⟩
          rintro env M ⟨rfl, rfl⟩
          refine seq_cut (fun env M => env = [some (.rol l0), some (.cel 0), some (.int (0 + (i : Int))), some (.lst (L.map D.str)), some (.cel (c + 1)), some (.bl false), some (.cel (c + 2)), some (.int (0 + (j : Int))), e8, some (.str s), e10, e11, some (.lst (ps.map pD)), e13, e14] ∧ M = b :: Z) ?_ ?_
          · intro K hK
            walk_at "go"
            exact hK _ _ ⟨rfl, rfl⟩
          rintro env M ⟨rfl, rfl⟩
          show frz (.lst (ps.map pD)) (b :: Z) fun d' M' => wDPut _ _ _ _ (List.map (unCel (.lst (ps.map pD)) d') _) M'
          simp only [frz, unc_map]
          walk_at "go"
          refine dput_at (ks := kdR rs) hz rfl (by rw [line16]; omega) ?_
          rw [put_newR hs2]
          exact ⟨rs ++ [(s, ps)], kn0, b, Z.set c (.dct (kdR (rs ++ [(s, ps)]))), _, _, _, _, _, _, _, _, rfl, rfl, set_get hz, set_getN hz1 (by omega), okrs ps okp, okk, hb.mono (by omega), by rw [List.length_append, List.length_singleton]; omega, hlab2 ps⟩
        | true =>
          obtain ⟨z, hzl⟩ : ∃ z, z = Z.length := ⟨_, rfl⟩
          have okq := knw_ok okk okp
          -- the known numbers are taken over
          refine seq_cut (fun env M => ∃ (Y : Mt) (kn : PL) (e13 e14 : Option D), env = [some (.rol l0), some (.cel 0), some (.int (0 + (i : Int))), some (.lst (L.map D.str)), some (.cel (c + 1)), some (.bl true), some (.cel (c + 2)), some (.int (0 + (j : Int))), e8, some (.str s), e10, e11, some (.cel (z + 1)), e13, e14] ∧ M = b :: (Y ++ [.lst ((knw kn0 ps).map pD)]) ∧ Y.length = z ∧ Y[c]? = some (.dct (kdR rs)) ∧ Y[c + 1]? = some (.dct (kdI kn)) ∧ PairsOk kn) ?_ ?_
          · intro K hK
            walk_at "go"
            refine lcL_map (fun d => match d with | .tup [.str s, .int x] => .tup [.str s, .int ((kn0.lookup s).getD x)] | d => d) _ _ (by rw [line16, List.length_map]; omega) (fun d hd C hC => ?_) ?_
            · obtain ⟨p, hp, rfl⟩ := List.mem_map.mp hd
              obtain ⟨s', x⟩ := p
              have hC' : C (.tup [.str s', .int ((kn0.lookup s').getD x)]) (b :: Z) := hC
              clear hC
              have hv : viewD (b :: Z) (.cel (c + 2)) = .dct (kdI kn0) := viewK_at (M := b :: Z) hz1
              walk_at "go"
              · rw [hv]; rfl
              refine get2_use hv rfl ?_
              rw [val_getD]
              walk_at "go"
              exact hC'
            · have em : (ps.map pD).map (fun d => match d with | .tup [.str s, .int x] => .tup [.str s, .int ((kn0.lookup s).getD x)] | d => d) = (knw kn0 ps).map pD := by
                unfold knw
                rw [List.map_map, List.map_map]; rfl
              rw [em]
              have hcz0 : (b :: (Z ++ [.lst ((knw kn0 ps).map pD)]) : Mt)[z + 1]? = some (.lst ((knw kn0 ps).map pD)) := by rw [hzl]; simp
              dsimp only
              rw [show (b :: Z).length = z + 1 from by rw [hzl]; rfl]
              rw [show (b :: Z ++ [D.lst ((knw kn0 ps).map pD)] : List D) = b :: (Z ++ [.lst ((knw kn0 ps).map pD)]) from rfl]
              simp only [List.set_cons_succ, List.set_cons_zero]
              refine itC_cel (i := z + 1) (fun K h => h) hcz0 ?_
              have hlq := ok_len okq
              generalize knw kn0 ps = q at *
              refine forLC_inv (fun m env M => ∃ (Y : Mt) (kn : PL) (e13 e14 : Option D), env = [some (.rol l0), some (.cel 0), some (.int (0 + (i : Int))), some (.lst (L.map D.str)), some (.cel (c + 1)), some (.bl true), some (.cel (c + 2)), some (.int (0 + (j : Int))), e8, some (.str s), e10, e11, some (.cel (z + 1)), e13, e14] ∧ M = b :: (Y ++ [.lst (q.map pD)]) ∧ Y.length = z ∧ Y[c]? = some (.dct (kdR rs)) ∧ Y[c + 1]? = some (.dct (kdI kn)) ∧ PairsOk kn) ⟨Z, kn0, _, _, by first | rfl | simp, rfl, hzl.symm, hz, hz1, okk⟩ ?_ ?_ ?_
              · rintro m env M ⟨Y, kn, e13, e14, _, rfl, hy, _⟩
                show (b :: (Y ++ [.lst (q.map pD)]) : Mt)[z + 1]? = _
                rw [← hy]; simp
              · rintro m d env M hd ⟨Y, kn, e13, e14, rfl, rfl, hy, y1, y2, okn⟩
                obtain ⟨p, hp, rfl⟩ : ∃ p, q[m]? = some p ∧ d = pD p := by
                  rw [List.getElem?_map] at hd
                  cases h : q[m]? with
                  | none => rw [h] at hd; cases hd
                  | some p => rw [h] at hd; exact ⟨p, rfl, (Option.some.inj hd).symm⟩
                have hpm := List.mem_of_getElem? hp
                have okn2 := put1_ok okn (okq.nm p hpm) (okq.nb p hpm)
                have lkn := ok_len okn
                have lk7 : (kdI kn).length ≤ 7 := by unfold kdI; rw [List.length_map]; exact lkn
                have hcy : c + 1 < Y.length := (List.getElem?_eq_some_iff.mp y2).1
                have y2' : (b :: (Y ++ [.lst (q.map pD)]) : Mt)[c + 2]? = some (.dct (kdI kn)) := app_get y2
                obtain ⟨s', x⟩ := p
                walk_at "go"
                refine dput_at y2' rfl (by rw [line16]; omega) ?_
                rw [put_kdI kn (s', x)]
                refine ⟨Y.set (c + 1) (.dct (kdI (put1 kn (s', x)))), put1 kn (s', x), _, _, rfl, ?_, by rw [List.length_set]; exact hy, set_getN y1 (by omega), set_get y2, okn2⟩
                show b :: ((Y ++ [D.lst (q.map pD)]).set (c + 1) _) = _
                rw [List.set_append_left _ _ hcy]
              · rintro env M ⟨Y, kn, e13, e14, rfl, rfl, hy, y1, y2, okn⟩
                exact hK _ _ ⟨Y, kn, _, _, rfl, rfl, hy, y1, y2, okn⟩
          rintro env M ⟨Y, kn, e13, e14, rfl, rfl, hy, y1, y2, okn⟩
          have hlq := ok_len okq
          generalize knw kn0 ps = q at *
          have hcy : c + 1 < Y.length := (List.getElem?_eq_some_iff.mp y2).1
          -- the last number
          refine seq_cut (fun env M => ∃ (q : PL) (b : D), env = [some (.rol l0), some (.cel 0), some (.int (0 + (i : Int))), some (.lst (L.map D.str)), some (.cel (c + 1)), some (.bl true), some (.cel (c + 2)), some (.int (0 + (j : Int))), e8, some (.str s), e10, e11, some (.cel (z + 1)), e13, e14] ∧ M = b :: (Y ++ [.lst (q.map pD)]) ∧ PairsOk q ∧ PenOk (1000 * i + 2 + 50 * j + 42) b) ?_ ?_
          · intro K hK
            have hgq : ∀ b : D, (b :: (Y ++ [.lst (q.map pD)]) : Mt)[z + 1]? = some (.lst (q.map pD)) := fun b => by rw [← hy]; simp
            have hvq : ∀ b : D, viewD (b :: (Y ++ [.lst (q.map pD)])) (.cel (z + 1)) = .lst (q.map pD) := fun b => view_at (hgq b)
            walk_at "go"
            refine use_law_draw hb (by omega) (by omega) (by omega) fun dr b h0 h1 hb => ?_
            walk_at "go"
            · refine eqI_lnil (hvq b) ⟨pl_pairs fun p hp => okq.nm p hp⟩ ?_
              cases hq0 : (q.map pD).isEmpty with
              | true =>
                walk_at "go"
                exact hK _ _ ⟨q, b, rfl, rfl, okq, hb⟩
              | false =>
                have hq1 : 1 ≤ q.length := by
                  cases q with
                  | nil => cases hq0
                  | cons a r => simp
                obtain ⟨⟨s', x⟩, hx⟩ : ∃ p, q[q.length - 1]? = some p := ⟨_, List.getElem?_eq_getElem (by omega)⟩
                have hb2 := okq.nb _ (List.mem_of_getElem? hx)
                have hat : L2.atI (q.map pD) (-1) = some (.tup [.str s', .int x]) := at_neg1 (by rw [List.length_map]; exact hq1) (by rw [List.length_map, List.getElem?_map, hx]; rfl)
                walk_at "go"
                rw [hvq b]
                walk_at "go"
                rw [hat]
                walk_at "go"
                rw [hvq b]
                walk_at "go"
                rw [hat]
                walk_at "go"
                refine set_neg1 (hgq b) (by rw [List.length_map]; exact hq1) ?_
                have es : (q.map pD).set ((q.map pD).length - 1) (.tup [.str s', .int ((x + 1) % 1000000000)]) = (q.set (q.length - 1) (s', (x + 1) % 1000000000)).map pD := by
                  rw [List.map_set, List.length_map]; rfl
                rw [es]
                refine hK _ _ ⟨q.set (q.length - 1) (s', (x + 1) % 1000000000), b, rfl, ?_, set_pairs okq hx (by omega), hb⟩
                show b :: ((Y ++ [D.lst (q.map pD)]).set z _) = _
                rw [← hy, List.set_append_right _ _ (Nat.le_refl _)]; simp
            · exact hK _ _ ⟨q, b, rfl, rfl, okq, hb⟩
          rintro env M ⟨q, b, rfl, rfl, okq, hb⟩
          have hgq : (b :: (Y ++ [.lst (q.map pD)]) : Mt)[z + 1]? = some (.lst (q.map pD)) := by rw [← hy]; simp
          have hsq : (b :: (Y ++ [.lst (q.map pD)]) : Mt).set (z + 1) .non = b :: (Y ++ [.non]) := by
            show b :: ((Y ++ [D.lst (q.map pD)]).set z _) = _
            rw [← hy, List.set_append_right _ _ (Nat.le_refl _)]; simp
          show frz (.cel (z + 1)) (b :: (Y ++ [.lst (q.map pD)])) fun d' M' => wDPut _ _ _ _ (List.map (unCel (.cel (z + 1)) d') _) M'
          refine frz_lst hgq ?_
          rw [hsq]
          have y1' : (b :: (Y ++ [.non]) : Mt)[c + 1]? = some (.dct (kdR rs)) := app_get y1
          have he : ([some (.rol l0), some (.cel 0), some (.int (0 + (i : Int))), some (.lst (L.map D.str)), some (.cel (c + 1)), some (.bl true), some (.cel (c + 2)), some (.int (0 + (j : Int))), e8, some (.str s), e10, e11, some (.cel (z + 1)), e13, e14] : Ev).map (unCel (.cel (z + 1)) (.lst (q.map pD))) = [some (.rol l0), some (.cel 0), some (.int (0 + (i : Int))), some (.lst (L.map D.str)), some (.cel (c + 1)), some (.bl true), some (.cel (c + 2)), some (.int (0 + (j : Int))), unCel (.cel (z + 1)) (.lst (q.map pD)) e8, some (.str s), unCel (.cel (z + 1)) (.lst (q.map pD)) e10, unCel (.cel (z + 1)) (.lst (q.map pD)) e11, some (.lst (q.map pD)), unCel (.cel (z + 1)) (.lst (q.map pD)) e13, unCel (.cel (z + 1)) (.lst (q.map pD)) e14] := by
            simp only [List.map_cons, List.map_nil]
            rw [unc_eq, unc_ne (m := 0) (by omega), unc_ne (m := c + 1) (by omega), unc_ne (m := c + 2) (by omega)]
            rfl
          rw [he]
          generalize unCel (.cel (z + 1)) (.lst (q.map pD)) e8 = u8
          generalize unCel (.cel (z + 1)) (.lst (q.map pD)) e10 = u10
          generalize unCel (.cel (z + 1)) (.lst (q.map pD)) e11 = u11
          generalize unCel (.cel (z + 1)) (.lst (q.map pD)) e13 = u13
          generalize unCel (.cel (z + 1)) (.lst (q.map pD)) e14 = u14
          walk_at "go"
          refine dput_at (ks := kdR rs) y1' rfl (by rw [line16]; omega) ?_
          rw [put_newR hs2]
          refine ⟨rs ++ [(s, q)], kn, b, Y.set c (.dct (kdR (rs ++ [(s, q)]))) ++ [.non], _, _, _, _, _, _, _, _, rfl, ?_, app_get (set_get y1), app_get (set_getN y2 (by omega)), okrs q okq, okn, hb.mono (by omega), by rw [List.length_append, List.length_singleton]; omega, hlab2 q⟩
          show b :: ((Y ++ [D.non]).set c _) = _
          rw [List.set_append_left _ _ (by omega)]
      · rintro env M ⟨rs, kn, b, Z, e7, e8, e9, e10, e11, e12, e13, e14, rfl, rfl, hz, hz1, okr, okk, hb, hrl, hlab⟩
        rw [range_len] at hb
        exact hK _ _ ⟨rs, b, Z, _, _, _, _, _, _, _, _, _, rfl, rfl, hz, okr, hb.mono (by omega), hlab⟩
    clear hb
    rintro env M ⟨rs, b, Z, e6, e7, e8, e9, e10, e11, e12, e13, e14, rfl, rfl, hz, okr, hb, hlab⟩
    have hcz : c < Z.length := (List.getElem?_eq_some_iff.mp hz).1
    obtain ⟨g, hg⟩ : ∃ g, g = Z.length := ⟨_, rfl⟩
    refine seq_cut (fun env M => env = [some (.rol l0), some (.cel 0), some (.int (0 + (i : Int))), some (.lst (L.map D.str)), some (.cel (c + 1)), some (.bl calm), e6, e7, some (.cel (g + 1)), e9, e10, e11, e12, e13, e14] ∧ M = b :: (Z ++ [.dct (kdS [])])) ?_ ?_
    · intro K hK
      walk_at "go"
      exact hK _ _ ⟨by rw [hg]; rfl, rfl⟩
    rintro env M ⟨rfl, rfl⟩
    have okT := tld_ok okr
    have hTn := tld_names rs
    have lT := okT.len
    have hlok : ∀ s ∈ rs.map (·.1), PyData.strOk s = true := fun s hs => lok s (hlab s hs)
    -- the parts
    refine seq_cut (fun env M => ∃ (Y : Mt) (e6 e7 e9 e10 e11 e12 e13 e14 : Option D), env = [some (.rol l0), some (.cel 0), some (.int (0 + (i : Int))), some (.lst (L.map D.str)), some (.fdc (kdR rs)), some (.bl calm), e6, e7, some (.cel (g + 1)), e9, e10, e11, e12, e13, e14] ∧ M = b :: (Y ++ [.dct (kdS (tld rs))]) ∧ Y.length = g) ?_ ?_
    · intro K hK
      have hz' : (b :: (Z ++ [.dct (kdS [])]) : Mt)[c + 1]? = some (.dct (kdR rs)) := app_get hz
      refine lkD_step rfl hz' ?_
      have hsM : (b :: (Z ++ [.dct (kdS [])]) : Mt).set (c + 1) .non = b :: (Z.set c .non ++ [.dct (kdS [])]) := by
        show b :: ((Z ++ [D.dct (kdS [])]).set c _) = _
        rw [List.set_append_left _ _ hcz]
      rw [hsM]
      have he : ([some (.rol l0), some (.cel 0), some (.int (0 + (i : Int))), some (.lst (L.map D.str)), some (.cel (c + 1)), some (.bl calm), e6, e7, some (.cel (g + 1)), e9, e10, e11, e12, e13, e14] : Ev).map (unCel (.cel (c + 1)) (.fdc (kdR rs))) = [some (.rol l0), some (.cel 0), some (.int (0 + (i : Int))), some (.lst (L.map D.str)), some (.fdc (kdR rs)), some (.bl calm), unCel (.cel (c + 1)) (.fdc (kdR rs)) e6, unCel (.cel (c + 1)) (.fdc (kdR rs)) e7, some (.cel (g + 1)), unCel (.cel (c + 1)) (.fdc (kdR rs)) e9, unCel (.cel (c + 1)) (.fdc (kdR rs)) e10, unCel (.cel (c + 1)) (.fdc (kdR rs)) e11, unCel (.cel (c + 1)) (.fdc (kdR rs)) e12, unCel (.cel (c + 1)) (.fdc (kdR rs)) e13, unCel (.cel (c + 1)) (.fdc (kdR rs)) e14] := by
        simp only [List.map_cons, List.map_nil]
        rw [unc_eq, unc_ne (m := 0) (by omega), unc_ne (m := g + 1) (by omega)]
        rfl
      rw [he]
      generalize unCel (.cel (c + 1)) (.fdc (kdR rs)) e6 = u6
      generalize unCel (.cel (c + 1)) (.fdc (kdR rs)) e7 = u7
      generalize unCel (.cel (c + 1)) (.fdc (kdR rs)) e9 = u9
      generalize unCel (.cel (c + 1)) (.fdc (kdR rs)) e10 = u10
      generalize unCel (.cel (c + 1)) (.fdc (kdR rs)) e11 = u11
      generalize unCel (.cel (c + 1)) (.fdc (kdR rs)) e12 = u12
      generalize unCel (.cel (c + 1)) (.fdc (kdR rs)) e13 = u13
      generalize unCel (.cel (c + 1)) (.fdc (kdR rs)) e14 = u14
      have hYl : (Z.set c .non).length = g := by rw [List.length_set]; exact hg.symm
      generalize Z.set c .non = Y at *
      walk_at "go"
      rw [keys_kdR]
      refine forL_inv (fun j env M => ∃ e9, env = [some (.rol l0), some (.cel 0), some (.int (0 + (i : Int))), some (.lst (L.map D.str)), some (.fdc (kdR rs)), some (.bl calm), u6, u7, some (.cel (g + 1)), e9, u10, u11, u12, u13, u14] ∧ M = b :: (Y ++ [.dct (kdS ((tld rs).take j))])) ⟨_, rfl, rfl⟩ ?_ ?_
      · rintro j d env M hd ⟨e9, rfl, eM⟩
        rw [eM]
        clear eM M
        obtain ⟨s, hs, rfl⟩ := str_at hd
        have hsn := List.mem_of_getElem? hs
        obtain ⟨p, hp, hps⟩ : ∃ p, rs[j]? = some p ∧ p.1 = s := by
          rw [List.getElem?_map] at hs
          cases h : rs[j]? with
          | none => rw [h] at hs; cases hs
          | some p => rw [h] at hs; exact ⟨p, rfl, Option.some.inj hs⟩
        subst hps
        have hTj : (tld rs)[j]? = some (p.1, canon p.2) := by unfold tld; rw [List.getElem?_map, hp]; rfl
        have egt := getT_mem okr.nd (List.mem_of_getElem? hp)
        have et : (tld rs).take (j + 1) = (tld rs).take j ++ [(p.1, canon p.2)] := by rw [List.take_add_one, hTj]; rfl
        have hnew : p.1 ∉ ((tld rs).take j).map (·.1) := fun z => by
          have nd : (((tld rs).take (j + 1)).map (·.1)).Nodup := okT.nd.sublist ((List.take_sublist _ _).map _)
          rw [et, List.map_append, List.nodup_append] at nd
          exact nd.2.2 _ z p.1 (by simp) rfl
        have hl7 : (kdS ((tld rs).take j)).length ≤ 7 := by unfold kdS; rw [List.length_map, List.length_take]; omega
        have okp := okr.ok p (List.mem_of_getElem? hp)
        have hgM : (b :: (Y ++ [.dct (kdS ((tld rs).take j))]) : Mt)[g + 1]? = some (.dct (kdS ((tld rs).take j))) := by
          rw [← hYl]; simp
        walk_at "go"
        refine getF_use rfl rfl (val_kdR hsn) ?_
        rw [egt]
        walk_at "go"
        refine use_Signals_of (.inl rfl) okp ?_
        walk_at "go"
        refine dput_at hgM rfl (by rw [line16]; omega) ?_
        rw [put_newS hnew, ← et]
        refine ⟨_, rfl, ?_⟩
        show b :: ((Y ++ [D.dct (kdS ((tld rs).take j))]).set g _) = _
        rw [← hYl, List.set_append_right _ _ (Nat.le_refl _)]; simp
      · rintro env M ⟨e9, rfl, eM⟩
        rw [List.length_map, List.length_map, show rs.length = (tld rs).length from by unfold tld; rw [List.length_map], List.take_length] at eM
        exact hK _ _ ⟨Y, _, _, _, _, _, _, _, _, rfl, eM, hYl⟩
    rintro env M ⟨Y, e6, e7, e9, e10, e11, e12, e13, e14, rfl, rfl, hYl⟩
    -- what is due
    refine seq_cut (fun env M => ∃ (e6 e7 e9 e11 e12 e13 e14 : Option D), env = [some (.rol l0), some (.cel 0), some (.int (0 + (i : Int))), some (.lst (L.map D.str)), some (.fdc (kdR rs)), some (.bl calm), e6, e7, some (.dct (kdS (tld rs))), e9, some (resD (tld rs)), e11, e12, e13, e14] ∧ M = b :: (Y ++ [.non])) ?_ ?_
    · intro K hK
      have hgM : (b :: (Y ++ [.dct (kdS (tld rs))]) : Mt)[g + 1]? = some (.dct (kdS (tld rs))) := by rw [← hYl]; simp
      have hsM : (b :: (Y ++ [.dct (kdS (tld rs))]) : Mt).set (g + 1) .non = b :: (Y ++ [.non]) := by
        show b :: ((Y ++ [D.dct (kdS (tld rs))]).set g _) = _
        rw [← hYl, List.set_append_right _ _ (Nat.le_refl _)]; simp
      show frz (.cel (g + 1)) (b :: (Y ++ [.dct (kdS (tld rs))])) fun d' M' => wAsg _ _ _ (List.map (unCel (.cel (g + 1)) d') _) M'
      refine frz_dct hgM ?_
      rw [hsM]
      have he : ([some (.rol l0), some (.cel 0), some (.int (0 + (i : Int))), some (.lst (L.map D.str)), some (.fdc (kdR rs)), some (.bl calm), e6, e7, some (.cel (g + 1)), e9, e10, e11, e12, e13, e14] : Ev).map (unCel (.cel (g + 1)) (.dct (kdS (tld rs)))) = [some (.rol l0), some (.cel 0), some (.int (0 + (i : Int))), some (.lst (L.map D.str)), some (.fdc (kdR rs)), some (.bl calm), unCel (.cel (g + 1)) (.dct (kdS (tld rs))) e6, unCel (.cel (g + 1)) (.dct (kdS (tld rs))) e7, some (.dct (kdS (tld rs))), unCel (.cel (g + 1)) (.dct (kdS (tld rs))) e9, unCel (.cel (g + 1)) (.dct (kdS (tld rs))) e10, unCel (.cel (g + 1)) (.dct (kdS (tld rs))) e11, unCel (.cel (g + 1)) (.dct (kdS (tld rs))) e12, unCel (.cel (g + 1)) (.dct (kdS (tld rs))) e13, unCel (.cel (g + 1)) (.dct (kdS (tld rs))) e14] := by
        simp only [List.map_cons, List.map_nil]
        rw [unc_eq, unc_ne (m := 0) (by omega)]
        rfl
      rw [he]
      generalize unCel (.cel (g + 1)) (.dct (kdS (tld rs))) e6 = u6
      generalize unCel (.cel (g + 1)) (.dct (kdS (tld rs))) e7 = u7
      generalize unCel (.cel (g + 1)) (.dct (kdS (tld rs))) e9 = u9
      generalize unCel (.cel (g + 1)) (.dct (kdS (tld rs))) e10 = u10
      generalize unCel (.cel (g + 1)) (.dct (kdS (tld rs))) e11 = u11
      generalize unCel (.cel (g + 1)) (.dct (kdS (tld rs))) e12 = u12
      generalize unCel (.cel (g + 1)) (.dct (kdS (tld rs))) e13 = u13
      generalize unCel (.cel (g + 1)) (.dct (kdS (tld rs))) e14 = u14
      walk_at "go"
      refine use_law_due okr ?_
      walk_at "go"
      exact hK _ _ ⟨_, _, _, _, _, _, _, rfl, rfl⟩
    rintro env M ⟨e6, e7, e9, e11, e12, e13, e14, rfl, rfl⟩
    have hsh := sh_res okT (by rw [hTn]; exact hlok)
    generalize Y ++ [D.non] = W
    -- found twice, the names
    refine seq_cut (fun env M => env = [some (.rol l0), some (.cel 0), some (.int (0 + (i : Int))), some (.lst (L.map D.str)), some (.fdc (kdR rs)), some (.bl calm), e6, e7, some (.dct (kdS (tld rs))), e9, some (resD (tld rs)), e11, e12, e13, e14] ∧ M = b :: W) ?_ ?_
    · intro K hK
      have hview := view_resD (b :: W) (tld rs)
      generalize hDu : resD (tld rs) = Du at *
      walk_at "go"
      refine use_law_found okT ?_
      rw [hDu]
      walk_at "go"
      refine eqI_same hview hview hsh ?_
      walk_at "go"
      refine use_law_found okT ?_
      rw [hDu]
      walk_at "go"
      refine eqI_same hview hview hsh ?_
      walk_at "go"
      rw [keys_kdS, keys_kdR, hTn]
      refine eqI_same (d := .lst ((rs.map (·.1)).map D.str)) rfl rfl (sh_strs hlok) ?_
      walk_at "go"
      exact hK _ _ ⟨rfl, rfl⟩
    rintro env M ⟨rfl, rfl⟩
    -- each part tells what is due of it
    refine seq_cut (fun env M => ∃ e9, env = [some (.rol l0), some (.cel 0), some (.int (0 + (i : Int))), some (.lst (L.map D.str)), some (.fdc (kdR rs)), some (.bl calm), e6, e7, some (.dct (kdS (tld rs))), e9, some (resD (tld rs)), e11, e12, e13, e14] ∧ M = b :: W) ?_ ?_
    · intro K hK
      generalize hDu : resD (tld rs) = Du at *
      walk_at "go"
      rw [keys_kdR]
      have hl16 : ([] : List D).length + ((rs.map (·.1)).map D.str).length ≤ sizeLine := by
        have := okr.len
        rw [line16, List.length_map, List.length_map, List.length_nil]; omega
      refine lcL_fun (fun _ => false) (fun d => d) _ _ _ hl16 (fun d hd A C hA hC => ?_) ?_
      · obtain ⟨s, hs, rfl⟩ := List.mem_map.mp hd
        have hs' : s ∈ (tld rs).map (·.1) := by rw [hTn]; exact hs
        have okp := getT_ok okr hs
        have hC' : C (b :: W) := hC rfl
        have lp := ok_len okp
        have hgt := getT_tld rs s
        walk_at "go"
        refine get_use rfl rfl (val_kdS hs') ?_
        rw [hgt]
        walk_at "go"
        refine getF_use rfl rfl (val_kdR hs) ?_
        walk_at "go"
        refine use_law_due_of (by omega) ?_
        walk_at "go"
        refine eqI_same (d := .tup ((canon (getT rs s)).map pD)) rfl rfl (sh_pairs fun p hp => (canon_ok okp).nm p hp) ?_
        walk_at "go"
        exact hC'
      · rw [show ([] : List D) ++ ((((rs.map (·.1)).map D.str).filter fun _ => false).map fun d => d) = [] from by simp]
        walk_at "go"
        · exact ⟨⟨[], rfl, rfl⟩⟩
        exact hK _ _ ⟨_, rfl, rfl⟩
    rintro env M ⟨e9, rfl, rfl⟩
    obtain ⟨h, hh⟩ : ∃ h, h = W.length := ⟨_, rfl⟩
    refine seq_cut (fun env M => env = [some (.rol l0), some (.cel 0), some (.int (0 + (i : Int))), some (.lst (L.map D.str)), some (.fdc (kdR rs)), some (.bl calm), e6, e7, some (.dct (kdS (tld rs))), e9, some (resD (tld rs)), some (.cel (h + 1)), e12, e13, e14] ∧ M = b :: (W ++ [.dct (kdS [])])) ?_ ?_
    · intro K hK
      generalize resD (tld rs) = Du at *
      walk_at "go"
      exact hK _ _ ⟨by rw [hh]; rfl, rfl⟩
    rintro env M ⟨rfl, rfl⟩
    have okR := parts_perm okT (List.reverse_perm (tld rs))
    refine seq_cut (fun env M => ∃ e9, env = [some (.rol l0), some (.cel 0), some (.int (0 + (i : Int))), some (.lst (L.map D.str)), some (.fdc (kdR rs)), some (.bl calm), e6, e7, some (.dct (kdS (tld rs))), e9, some (resD (tld rs)), some (.cel (h + 1)), e12, e13, e14] ∧ M = b :: (W ++ [.dct (kdS (tld rs).reverse)])) ?_ ?_
    · intro K hK
      generalize resD (tld rs) = Du at *
      walk_at "go"
      rw [keys_kdR]
      refine revL_use rfl ?_
      have er : ((rs.map (·.1)).map D.str).reverse = ((tld rs).reverse.map (·.1)).map D.str := by rw [← hTn, List.map_reverse, List.map_reverse]
      rw [er]
      walk_at "go"
      refine forL_inv (fun j env M => ∃ e9, env = [some (.rol l0), some (.cel 0), some (.int (0 + (i : Int))), some (.lst (L.map D.str)), some (.fdc (kdR rs)), some (.bl calm), e6, e7, some (.dct (kdS (tld rs))), e9, some Du, some (.cel (h + 1)), e12, e13, e14] ∧ M = b :: (W ++ [.dct (kdS ((tld rs).reverse.take j))])) ⟨_, rfl, rfl⟩ ?_ ?_
      · rintro j d env M hd ⟨e9, rfl, eM⟩
        rw [eM]
        clear eM M
        obtain ⟨s, hs, rfl⟩ := str_at hd
        obtain ⟨p, hp, hps⟩ : ∃ p, (tld rs).reverse[j]? = some p ∧ p.1 = s := by
          rw [List.getElem?_map] at hs
          cases h : (tld rs).reverse[j]? with
          | none => rw [h] at hs; cases hs
          | some p => rw [h] at hs; exact ⟨p, rfl, Option.some.inj hs⟩
        subst hps
        have hpm : p ∈ tld rs := List.mem_reverse.mp (List.mem_of_getElem? hp)
        have egt := getT_mem okT.nd hpm
        have et : (tld rs).reverse.take (j + 1) = (tld rs).reverse.take j ++ [p] := by rw [List.take_add_one, hp]; rfl
        have hnew : p.1 ∉ ((tld rs).reverse.take j).map (·.1) := fun z => by
          have nd : (((tld rs).reverse.take (j + 1)).map (·.1)).Nodup := okR.nd.sublist ((List.take_sublist _ _).map _)
          rw [et, List.map_append, List.nodup_append] at nd
          exact nd.2.2 _ z p.1 (by simp) rfl
        have hl7 : (kdS ((tld rs).reverse.take j)).length ≤ 7 := by
          have := okR.len
          unfold kdS; rw [List.length_map, List.length_take]; omega
        have hgM : (b :: (W ++ [.dct (kdS ((tld rs).reverse.take j))]) : Mt)[h + 1]? = some (.dct (kdS ((tld rs).reverse.take j))) := by
          rw [hh]; simp
        walk_at "go"
        refine get_use rfl rfl (val_kdS (List.mem_map.mpr ⟨p, hpm, rfl⟩)) ?_
        rw [egt]
        walk_at "go"
        refine dput_at hgM rfl (by rw [line16]; omega) ?_
        rw [put_newS hnew, ← et]
        refine ⟨_, rfl, ?_⟩
        show b :: ((W ++ [D.dct (kdS ((tld rs).reverse.take j))]).set h _) = _
        rw [hh, List.set_append_right _ _ (Nat.le_refl _)]; simp
      · rintro env M ⟨e9, rfl, eM⟩
        rw [List.length_map, List.length_map, List.take_length] at eM
        exact hK _ _ ⟨_, rfl, eM⟩
    rintro env M ⟨e9, rfl, rfl⟩
    -- found in the other order
    refine seq_cut (fun env M => ∃ (e6 e7 e9 e11 e12 e13 e14 : Option D), env = [some (.rol l0), some (.cel 0), some (.int (0 + (i : Int))), some (.lst (L.map D.str)), some (.fdc (kdR rs)), some (.bl calm), e6, e7, some (.dct (kdS (tld rs))), e9, some (resD (tld rs)), e11, e12, e13, e14] ∧ M = b :: (W ++ [.non])) ?_ ?_
    · intro K hK
      have hgM : (b :: (W ++ [.dct (kdS (tld rs).reverse)]) : Mt)[h + 1]? = some (.dct (kdS (tld rs).reverse)) := by rw [hh]; simp
      have hsM : (b :: (W ++ [.dct (kdS (tld rs).reverse)]) : Mt).set (h + 1) .non = b :: (W ++ [.non]) := by
        show b :: ((W ++ [D.dct (kdS (tld rs).reverse)]).set h _) = _
        rw [hh, List.set_append_right _ _ (Nat.le_refl _)]; simp
      show frz (.cel (h + 1)) (b :: (W ++ [.dct (kdS (tld rs).reverse)])) fun d' M' => wIfS _ _ _ _ (List.map (unCel (.cel (h + 1)) d') _) M'
      refine frz_dct hgM ?_
      rw [hsM]
      have he : ([some (.rol l0), some (.cel 0), some (.int (0 + (i : Int))), some (.lst (L.map D.str)), some (.fdc (kdR rs)), some (.bl calm), e6, e7, some (.dct (kdS (tld rs))), e9, some (resD (tld rs)), some (.cel (h + 1)), e12, e13, e14] : Ev).map (unCel (.cel (h + 1)) (.dct (kdS (tld rs).reverse))) = [some (.rol l0), some (.cel 0), some (.int (0 + (i : Int))), some (.lst (L.map D.str)), some (.fdc (kdR rs)), some (.bl calm), unCel (.cel (h + 1)) (.dct (kdS (tld rs).reverse)) e6, unCel (.cel (h + 1)) (.dct (kdS (tld rs).reverse)) e7, some (.dct (kdS (tld rs))), unCel (.cel (h + 1)) (.dct (kdS (tld rs).reverse)) e9, some (resD (tld rs)), some (.dct (kdS (tld rs).reverse)), unCel (.cel (h + 1)) (.dct (kdS (tld rs).reverse)) e12, unCel (.cel (h + 1)) (.dct (kdS (tld rs).reverse)) e13, unCel (.cel (h + 1)) (.dct (kdS (tld rs).reverse)) e14] := by
        simp only [List.map_cons, List.map_nil]
        rw [unc_eq, unc_ne (m := 0) (by omega), unc_resD]
        rfl
      rw [he]
      generalize unCel (.cel (h + 1)) (.dct (kdS (tld rs).reverse)) e6 = u6
      generalize unCel (.cel (h + 1)) (.dct (kdS (tld rs).reverse)) e7 = u7
      generalize unCel (.cel (h + 1)) (.dct (kdS (tld rs).reverse)) e9 = u9
      generalize unCel (.cel (h + 1)) (.dct (kdS (tld rs).reverse)) e12 = u12
      generalize unCel (.cel (h + 1)) (.dct (kdS (tld rs).reverse)) e13 = u13
      generalize unCel (.cel (h + 1)) (.dct (kdS (tld rs).reverse)) e14 = u14
      have hview := view_resD (b :: (W ++ [.non])) (tld rs)
      have hperm := resD_perm okT.nd (List.reverse_perm (tld rs))
      generalize hDu : resD (tld rs) = Du at *
      walk_at "go"
      refine use_law_found okR ?_
      rw [hperm]
      walk_at "go"
      refine eqI_same hview hview hsh ?_
      walk_at "go"
      exact hK _ _ ⟨_, _, _, _, _, _, _, rfl, rfl⟩
    rintro env M ⟨e6, e7, e9, e11, e12, e13, e14, rfl, rfl⟩
    generalize W ++ [D.non] = V
    generalize resD (tld rs) = Du at *
    -- each part alone
    walk_at "go"
    rw [keys_kdR]
    refine forL_inv (fun j env M => ∃ e9, env = [some (.rol l0), some (.cel 0), some (.int (0 + (i : Int))), some (.lst (L.map D.str)), some (.fdc (kdR rs)), some (.bl calm), e6, e7, some (.dct (kdS (tld rs))), e9, some Du, e11, e12, e13, e14] ∧ M = b :: V) ⟨_, rfl, rfl⟩ ?_ ?_
    · rintro j d env M hd ⟨e9, rfl, eM⟩
      rw [eM]
      clear eM M
      obtain ⟨s, hs, rfl⟩ := str_at hd
      have hsn := List.mem_of_getElem? hs
      have hs' : s ∈ (tld rs).map (·.1) := by rw [hTn]; exact hsn
      have okp := getT_ok okT hs'
      have hcc : canon (getT (tld rs) s) = getT (tld rs) s := by rw [getT_tld, canon_canon]
      have h1 := resD_one (s := s) okp hcc
      have ok1 : PartsOk [(s, getT (tld rs) s)] := ⟨by simp, fun p hp => by
        have : p = (s, getT (tld rs) s) := by simpa using hp
        rw [this]; exact okp, by simp⟩
      have hsh1 : ShD (.tup [.str "made", .tup ((getT (tld rs) s).map pD)]) := by
        rw [← h1]
        exact sh_res ok1 (by simpa using hlok s hsn)
      walk_at "go"
      refine get_use rfl rfl (val_kdS hs') ?_
      walk_at "go"
      refine use_law_found (ps := [(s, getT (tld rs) s)]) ok1 ?_
      rw [h1]
      walk_at "go"
      refine get_use rfl rfl (val_kdS hs') ?_
      walk_at "go"
      refine eqI_same (d := .tup [.str "made", .tup ((getT (tld rs) s).map pD)]) rfl rfl hsh1 ?_
      walk_at "go"
      exact ⟨_, rfl, rfl⟩
    · rintro env M ⟨e9, rfl, rfl⟩
      exact ⟨b, V, _, _, _, _, _, _, _, _, _, _, _, _, _, rfl, rfl, hb.mono (by omega)⟩
  · rintro env M ⟨b, M2, e2, e3, e4, e5, e6, e7, e8, e9, e10, e11, e12, e13, e14, rfl, rfl, hb⟩
    walk_at "go"
    refine use_law_found (ps := []) ⟨by simp, fun p hp => (nomatch hp), by simp⟩ ?_
    rw [resD_nil]
    walk_at "go"
    refine eqI_same (d := .tup [.str "made", .tup []]) rfl rfl ⟨.tuple [.str "made", .tuple []], rfl, by decide +kernel⟩ ?_
    exact .keep (k _)



def topS (i : Nat) : Stmt := PySem.Challenge.pw_orplaces_k09_merged_parts.main.body.getD i (.Pass ⟨0, 0, 0, 0⟩)
abbrev p_InvalidName_init__ : List Str := ["self", "value"]
abbrev s_InvalidName_init__ : Stmt := (inClass (topS 3) 0)
abbrev N_InvalidName_init__ : List Str := ["self", "value"]
theorem sc_InvalidName_init__ : FnScope N_InvalidName_init__ p_InvalidName_init__ (defScope s_InvalidName_init__) := ⟨rfl, rfl, rfl, by decide +kernel, rfl, by decide +kernel, by decide +kernel⟩
abbrev p_InvalidNumber_init__ : List Str := ["self", "value"]
abbrev s_InvalidNumber_init__ : Stmt := (inClass (topS 4) 0)
abbrev N_InvalidNumber_init__ : List Str := ["self", "value"]
theorem sc_InvalidNumber_init__ : FnScope N_InvalidNumber_init__ p_InvalidNumber_init__ (defScope s_InvalidNumber_init__) := ⟨rfl, rfl, rfl, by decide +kernel, rfl, by decide +kernel, by decide +kernel⟩
abbrev p_FieldClash_init__ : List Str := ["self", "field", "one", "other"]
abbrev s_FieldClash_init__ : Stmt := (inClass (topS 5) 0)
abbrev N_FieldClash_init__ : List Str := ["self", "field", "one", "other"]
theorem sc_FieldClash_init__ : FnScope N_FieldClash_init__ p_FieldClash_init__ (defScope s_FieldClash_init__) := ⟨rfl, rfl, rfl, by decide +kernel, rfl, by decide +kernel, by decide +kernel⟩
abbrev p_Clash_init__ : List Str := ["self", "lesser", "name"]
abbrev s_Clash_init__ : Stmt := (inClass (topS 6) 0)
abbrev N_Clash_init__ : List Str := ["self", "lesser", "name"]
theorem sc_Clash_init__ : FnScope N_Clash_init__ p_Clash_init__ (defScope s_Clash_init__) := ⟨rfl, rfl, rfl, by decide +kernel, rfl, by decide +kernel, by decide +kernel⟩
abbrev s_is_integer : Stmt := topS 8
abbrev N_is_integer : List Str := ["value"]
theorem sc_is_integer : FnScope N_is_integer p_is_integer (defScope s_is_integer) := ⟨rfl, rfl, rfl, by decide +kernel, rfl, by decide +kernel, by decide +kernel⟩
abbrev s_is_between : Stmt := topS 9
abbrev N_is_between : List Str := ["value", "least", "most"]
theorem sc_is_between : FnScope N_is_between p_is_between (defScope s_is_between) := ⟨rfl, rfl, rfl, by decide +kernel, rfl, by decide +kernel, by decide +kernel⟩
abbrev s_is_name : Stmt := topS 15
abbrev N_is_name : List Str := ["value", "sign"]
theorem sc_is_name : FnScope N_is_name p_is_name (defScope s_is_name) := ⟨rfl, rfl, rfl, by decide +kernel, rfl, by decide +kernel, by decide +kernel⟩
abbrev s_need_told : Stmt := topS 18
abbrev N_need_told : List Str := ["field", "number", "taken"]
theorem sc_need_told : FnScope N_need_told p_need_told (defScope s_need_told) := ⟨rfl, rfl, rfl, by decide +kernel, rfl, by decide +kernel, by decide +kernel⟩
abbrev s_Signals_init__ : Stmt := (inClass (topS 17) 1)
abbrev N_Signals_init__ : List Str := ["this_object", "fields", "field"]
theorem sc_Signals_init__ : FnScope N_Signals_init__ p_Signals_init__ (defScope s_Signals_init__) := ⟨rfl, rfl, rfl, by decide +kernel, rfl, by decide +kernel, by decide +kernel⟩
abbrev s_Signals_of : Stmt := (inClass (topS 17) 2)
abbrev N_Signals_of : List Str := ["cls", "pairs", "found", "field", "number"]
theorem sc_Signals_of : FnScope N_Signals_of p_Signals_of (defScope s_Signals_of) := ⟨rfl, rfl, rfl, by decide +kernel, rfl, by decide +kernel, by decide +kernel⟩
abbrev s_Signals_getitem__ : Stmt := (inClass (topS 17) 3)
abbrev N_Signals_getitem__ : List Str := ["self", "field"]
theorem sc_Signals_getitem__ : FnScope N_Signals_getitem__ p_Signals_getitem__ (defScope s_Signals_getitem__) := ⟨rfl, rfl, rfl, by decide +kernel, rfl, by decide +kernel, by decide +kernel⟩
abbrev s_Signals_or__ : Stmt := (inClass (topS 17) 4)
abbrev N_Signals_or__ : List Str := ["self", "other", "fields", "field", "number", "against"]
theorem sc_Signals_or__ : FnScope N_Signals_or__ p_Signals_or__ (defScope s_Signals_or__) := ⟨rfl, rfl, rfl, by decide +kernel, rfl, by decide +kernel, by decide +kernel⟩
abbrev s_need_union : Stmt := topS 20
abbrev N_need_union : List Str := ["parts", "lesser", "name", "e"]
theorem sc_need_union : FnScope N_need_union p_need_union (defScope s_need_union) := ⟨rfl, rfl, rfl, by decide +kernel, rfl, by decide +kernel, by decide +kernel⟩
abbrev s_merged : Stmt := topS 21
abbrev N_merged : List Str := ["parts", "found", "names", "at", "name", "lesser"]
theorem sc_merged : FnScope N_merged p_merged (defScope s_merged) := ⟨rfl, rfl, rfl, by decide +kernel, rfl, by decide +kernel, by decide +kernel⟩
abbrev s_law_pen : Stmt := topS 23
abbrev N_law_pen : List Str := ["_law_script"]
theorem sc_law_pen : FnScope N_law_pen p_law_pen (defScope s_law_pen) := ⟨rfl, rfl, rfl, by decide +kernel, rfl, by decide +kernel, by decide +kernel⟩
abbrev s_law_draw : Stmt := topS 24
abbrev N_law_draw : List Str := ["_law_pen_here", "_law_many", "_law_at", "_law_cell", "_law_mixed", "_law_digit", "_law_great"]
theorem sc_law_draw : FnScope N_law_draw p_law_draw (defScope s_law_draw) := ⟨rfl, rfl, rfl, by decide +kernel, rfl, by decide +kernel, by decide +kernel⟩
abbrev s_law_pick : Stmt := topS 25
abbrev N_law_pick : List Str := ["_law_pen_here", "_law_some"]
theorem sc_law_pick : FnScope N_law_pick p_law_pick (defScope s_law_pick) := ⟨rfl, rfl, rfl, by decide +kernel, rfl, by decide +kernel, by decide +kernel⟩
abbrev s_law_pairs : Stmt := topS 26
abbrev N_law_pairs : List Str := ["_law_pen_here", "_law_most", "_law_names", "_law_found_here", "_law_k", "_law_taken", "_law_name", "_law_some", "_law_pair"]
theorem sc_law_pairs : FnScope N_law_pairs p_law_pairs (defScope s_law_pairs) := ⟨rfl, rfl, rfl, by decide +kernel, rfl, by decide +kernel, by decide +kernel⟩
abbrev s_law_due_of : Stmt := topS 27
abbrev N_law_due_of : List Str := ["_law_pairs_here", "_law_pair"]
theorem sc_law_due_of : FnScope N_law_due_of p_law_due_of (defScope s_law_due_of) := ⟨rfl, rfl, rfl, by decide +kernel, rfl, by decide +kernel, by decide +kernel⟩
abbrev s_law_do_clash : Stmt := topS 28
abbrev N_law_do_clash : List Str := ["_law_one", "_law_two", "_law_numbers", "_law_name", "_law_number"]
theorem sc_law_do_clash : FnScope N_law_do_clash p_law_do_clash (defScope s_law_do_clash) := ⟨rfl, rfl, rfl, by decide +kernel, rfl, by decide +kernel, by decide +kernel⟩
abbrev s_law_due : Stmt := topS 29
abbrev N_law_due : List Str := ["_law_shares", "_law_names", "_law_at", "_law_pairs_here", "_law_name", "_law_lesser", "_law_field", "_law_number"]
theorem sc_law_due : FnScope N_law_due p_law_due (defScope s_law_due) := ⟨rfl, rfl, rfl, by decide +kernel, rfl, by decide +kernel, by decide +kernel⟩
abbrev s_law_found : Stmt := topS 30
abbrev N_law_found : List Str := ["_law_given", "e"]
theorem sc_law_found : FnScope N_law_found p_law_found (defScope s_law_found) := ⟨rfl, rfl, rfl, by decide +kernel, rfl, by decide +kernel, by decide +kernel⟩
abbrev s_law : Stmt := topS 31
abbrev N_law : List Str := ["_law_script", "_law_pen_here", "_law_turn", "_law_labels", "_law_shares", "_law_calm", "_law_known", "_law_k", "_law_given", "_law_label", "_law_due_here", "_law_turned", "_law_pairs_here", "_law_name", "_law_number"]
theorem sc_law : FnScope N_law p_law (defScope s_law) := ⟨rfl, rfl, rfl, by decide +kernel, rfl, by decide +kernel, by decide +kernel⟩
/-- what the top has written -/
structure Tx (K : PySem.W.Frag) (mg : Str → Option Value) where
  {C_Signals : Addr}
  m_Signals : mg "Signals" = some (.ref C_Signals)
  at_Signals : ClsAt K "Signals" C_Signals
  {C_Clash : Addr}
  m_Clash : mg "Clash" = some (.ref C_Clash)
  at_Clash : ClsAt K "Clash" C_Clash
  {C_FieldClash : Addr}
  m_FieldClash : mg "FieldClash" = some (.ref C_FieldClash)
  at_FieldClash : ClsAt K "FieldClash" C_FieldClash
  {C_InvalidName : Addr}
  m_InvalidName : mg "InvalidName" = some (.ref C_InvalidName)
  at_InvalidName : ClsAt K "InvalidName" C_InvalidName
  {C_InvalidNumber : Addr}
  m_InvalidNumber : mg "InvalidNumber" = some (.ref C_InvalidNumber)
  at_InvalidNumber : ClsAt K "InvalidNumber" C_InvalidNumber
  {C_OrError : Addr}
  m_OrError : mg "OrError" = some (.ref C_OrError)
  at_OrError : ClsAt K "OrError" C_OrError
  cl_Signals : Cls K C_Signals
  cr_Signals : ClX.CRead K C_Signals (.type "type")
  {sp_a_Signals_of : Addr}
  {f_Signals_of : Addr}
  cm_Signals_of : ClX.CMet K C_Signals (.type "type") "of" sp_a_Signals_of f_Signals_of
  {tk_Signals_MOST : Tok}
  cv_Signals_MOST : PySem.W.findCls K (.ref C_Signals) (.type "type") "MOST" = some (.val (.int 1000000000 tk_Signals_MOST))
  er_Clash : ErC K C_Clash
  kit_Clash_FieldClash : PySem.W.kitOne K (.ref C_Clash) (.ref C_FieldClash) = some false
  kit_Clash_OrError : PySem.W.kitOne K (.ref C_Clash) (.ref C_OrError) = some true
  {f_Signals_init__ : Addr}
  mk_Signals : Mk K C_Signals f_Signals_init__
  na_Signals_told : NoAttr K C_Signals "told"
  {f_Signals_getitem__ : Addr}
  oc_Signals___getitem__ : OpC K C_Signals "__getitem__" f_Signals_getitem__
  {f_Signals_or__ : Addr}
  oc_Signals___or__ : OpC K C_Signals "__or__" f_Signals_or__
  ox_Clash : OexC K C_Clash
  {f_Clash_init__ : Addr}
  ii_Clash : PySem.W.findIn K (.ref C_Clash) "__init__" = some (some (.ref f_Clash_init__))
  ti_Clash : PySem.W.typeIn K (.ref f_Clash_init__) = some (.type "function")
  xi_Clash_lesser : PySem.W.findIn K (.ref C_Clash) "lesser" = some none
  xi_Clash_name : PySem.W.findIn K (.ref C_Clash) "name" = some none
  ox_FieldClash : OexC K C_FieldClash
  {f_FieldClash_init__ : Addr}
  ii_FieldClash : PySem.W.findIn K (.ref C_FieldClash) "__init__" = some (some (.ref f_FieldClash_init__))
  ti_FieldClash : PySem.W.typeIn K (.ref f_FieldClash_init__) = some (.type "function")
  xi_FieldClash_field : PySem.W.findIn K (.ref C_FieldClash) "field" = some none
  xi_FieldClash_one : PySem.W.findIn K (.ref C_FieldClash) "one" = some none
  xi_FieldClash_other : PySem.W.findIn K (.ref C_FieldClash) "other" = some none
  ox_InvalidName : OexC K C_InvalidName
  {f_InvalidName_init__ : Addr}
  ii_InvalidName : PySem.W.findIn K (.ref C_InvalidName) "__init__" = some (some (.ref f_InvalidName_init__))
  ti_InvalidName : PySem.W.typeIn K (.ref f_InvalidName_init__) = some (.type "function")
  xi_InvalidName_value : PySem.W.findIn K (.ref C_InvalidName) "value" = some none
  ox_InvalidNumber : OexC K C_InvalidNumber
  {f_InvalidNumber_init__ : Addr}
  ii_InvalidNumber : PySem.W.findIn K (.ref C_InvalidNumber) "__init__" = some (some (.ref f_InvalidNumber_init__))
  ti_InvalidNumber : PySem.W.typeIn K (.ref f_InvalidNumber_init__) = some (.type "function")
  xi_InvalidNumber_value : PySem.W.findIn K (.ref C_InvalidNumber) "value" = some none
  sf_Signals : PySem.W.selfFirst K C_Signals = true
  xa_Clash_lesser : PySem.W.findIn K (.ref C_Clash) "lesser" = some none
  xa_Clash_name : PySem.W.findIn K (.ref C_Clash) "name" = some none
  xf_Clash : XfC K C_Clash
  xm_Clash_Clash : PySem.W.exmOne K (.ref C_Clash) (.ref C_Clash) = some true
  xm_FieldClash_FieldClash : PySem.W.exmOne K (.ref C_FieldClash) (.ref C_FieldClash) = some true
  fn_Signals___getitem__ : PySem.W.fnIn K f_Signals_getitem__ = true
  {oc_InvalidName_init__ kV_InvalidName_init__ dc_InvalidName_init__ pm_InvalidName_init__ cd_InvalidName_init__ ct_InvalidName_init__ : Value}
  {od_InvalidName_init__ an_InvalidName_init__ : Option Addr}
  {sl_InvalidName_init__ : Array (Option Value)}
  l_InvalidName_init__ : K.lookup f_InvalidName_init__ = some ⟨oc_InvalidName_init__, od_InvalidName_init__, .func (PySem.W.fnOf "__init__" "InvalidName.__init__" (defArgs s_InvalidName_init__) (defBody s_InvalidName_init__) (defScope s_InvalidName_init__) .none kV_InvalidName_init__ dc_InvalidName_init__ pm_InvalidName_init__ an_InvalidName_init__ cd_InvalidName_init__ ct_InvalidName_init__), sl_InvalidName_init__⟩
  c_InvalidName_init__ : PySem.W.codeIn K cd_InvalidName_init__ "InvalidName.__init__" = true
  k_InvalidName_init__ : PySem.W.keepIn K (.ref f_InvalidName_init__) = true
  {oc_InvalidNumber_init__ kV_InvalidNumber_init__ dc_InvalidNumber_init__ pm_InvalidNumber_init__ cd_InvalidNumber_init__ ct_InvalidNumber_init__ : Value}
  {od_InvalidNumber_init__ an_InvalidNumber_init__ : Option Addr}
  {sl_InvalidNumber_init__ : Array (Option Value)}
  l_InvalidNumber_init__ : K.lookup f_InvalidNumber_init__ = some ⟨oc_InvalidNumber_init__, od_InvalidNumber_init__, .func (PySem.W.fnOf "__init__" "InvalidNumber.__init__" (defArgs s_InvalidNumber_init__) (defBody s_InvalidNumber_init__) (defScope s_InvalidNumber_init__) .none kV_InvalidNumber_init__ dc_InvalidNumber_init__ pm_InvalidNumber_init__ an_InvalidNumber_init__ cd_InvalidNumber_init__ ct_InvalidNumber_init__), sl_InvalidNumber_init__⟩
  c_InvalidNumber_init__ : PySem.W.codeIn K cd_InvalidNumber_init__ "InvalidNumber.__init__" = true
  k_InvalidNumber_init__ : PySem.W.keepIn K (.ref f_InvalidNumber_init__) = true
  {oc_FieldClash_init__ kV_FieldClash_init__ dc_FieldClash_init__ pm_FieldClash_init__ cd_FieldClash_init__ ct_FieldClash_init__ : Value}
  {od_FieldClash_init__ an_FieldClash_init__ : Option Addr}
  {sl_FieldClash_init__ : Array (Option Value)}
  l_FieldClash_init__ : K.lookup f_FieldClash_init__ = some ⟨oc_FieldClash_init__, od_FieldClash_init__, .func (PySem.W.fnOf "__init__" "FieldClash.__init__" (defArgs s_FieldClash_init__) (defBody s_FieldClash_init__) (defScope s_FieldClash_init__) .none kV_FieldClash_init__ dc_FieldClash_init__ pm_FieldClash_init__ an_FieldClash_init__ cd_FieldClash_init__ ct_FieldClash_init__), sl_FieldClash_init__⟩
  c_FieldClash_init__ : PySem.W.codeIn K cd_FieldClash_init__ "FieldClash.__init__" = true
  k_FieldClash_init__ : PySem.W.keepIn K (.ref f_FieldClash_init__) = true
  {oc_Clash_init__ kV_Clash_init__ dc_Clash_init__ pm_Clash_init__ cd_Clash_init__ ct_Clash_init__ : Value}
  {od_Clash_init__ an_Clash_init__ : Option Addr}
  {sl_Clash_init__ : Array (Option Value)}
  l_Clash_init__ : K.lookup f_Clash_init__ = some ⟨oc_Clash_init__, od_Clash_init__, .func (PySem.W.fnOf "__init__" "Clash.__init__" (defArgs s_Clash_init__) (defBody s_Clash_init__) (defScope s_Clash_init__) .none kV_Clash_init__ dc_Clash_init__ pm_Clash_init__ an_Clash_init__ cd_Clash_init__ ct_Clash_init__), sl_Clash_init__⟩
  c_Clash_init__ : PySem.W.codeIn K cd_Clash_init__ "Clash.__init__" = true
  k_Clash_init__ : PySem.W.keepIn K (.ref f_Clash_init__) = true
  {f_is_integer : Addr}
  g_is_integer : mg "is_integer" = some (.ref f_is_integer)
  {oc_is_integer kV_is_integer dc_is_integer pm_is_integer cd_is_integer ct_is_integer : Value}
  {od_is_integer an_is_integer : Option Addr}
  {sl_is_integer : Array (Option Value)}
  l_is_integer : K.lookup f_is_integer = some ⟨oc_is_integer, od_is_integer, .func (PySem.W.fnOf "is_integer" "is_integer" (defArgs s_is_integer) (defBody s_is_integer) (defScope s_is_integer) .none kV_is_integer dc_is_integer pm_is_integer an_is_integer cd_is_integer ct_is_integer), sl_is_integer⟩
  c_is_integer : PySem.W.codeIn K cd_is_integer "is_integer" = true
  k_is_integer : PySem.W.keepIn K (.ref f_is_integer) = true
  {f_is_between : Addr}
  g_is_between : mg "is_between" = some (.ref f_is_between)
  {oc_is_between kV_is_between dc_is_between pm_is_between cd_is_between ct_is_between : Value}
  {od_is_between an_is_between : Option Addr}
  {sl_is_between : Array (Option Value)}
  l_is_between : K.lookup f_is_between = some ⟨oc_is_between, od_is_between, .func (PySem.W.fnOf "is_between" "is_between" (defArgs s_is_between) (defBody s_is_between) (defScope s_is_between) .none kV_is_between dc_is_between pm_is_between an_is_between cd_is_between ct_is_between), sl_is_between⟩
  c_is_between : PySem.W.codeIn K cd_is_between "is_between" = true
  k_is_between : PySem.W.keepIn K (.ref f_is_between) = true
  {f_is_name : Addr}
  g_is_name : mg "is_name" = some (.ref f_is_name)
  {oc_is_name kV_is_name dc_is_name pm_is_name cd_is_name ct_is_name : Value}
  {od_is_name an_is_name : Option Addr}
  {sl_is_name : Array (Option Value)}
  l_is_name : K.lookup f_is_name = some ⟨oc_is_name, od_is_name, .func (PySem.W.fnOf "is_name" "is_name" (defArgs s_is_name) (defBody s_is_name) (defScope s_is_name) .none kV_is_name dc_is_name pm_is_name an_is_name cd_is_name ct_is_name), sl_is_name⟩
  c_is_name : PySem.W.codeIn K cd_is_name "is_name" = true
  k_is_name : PySem.W.keepIn K (.ref f_is_name) = true
  {f_need_told : Addr}
  g_need_told : mg "need_told" = some (.ref f_need_told)
  {df_need_told : Addr}
  {oc_need_told kV_need_told dc_need_told pm_need_told cd_need_told ct_need_told : Value}
  {od_need_told an_need_told : Option Addr}
  {sl_need_told : Array (Option Value)}
  l_need_told : K.lookup f_need_told = some ⟨oc_need_told, od_need_told, .func (PySem.W.fnOf "need_told" "need_told" (defArgs s_need_told) (defBody s_need_told) (defScope s_need_told) (.ref df_need_told) kV_need_told dc_need_told pm_need_told an_need_told cd_need_told ct_need_told), sl_need_told⟩
  c_need_told : PySem.W.codeIn K cd_need_told "need_told" = true
  k_need_told : PySem.W.keepIn K (.ref f_need_told) = true
  {de_need_told : Addr}
  {dod_need_told : Option Addr}
  {dn_need_told : Nat}
  {dsl_need_told : Array (Option Value)}
  df__need_told : K.lookup df_need_told = some ⟨.type "tuple", dod_need_told, .seq #[.ref de_need_told] dn_need_told, dsl_need_told⟩
  {eod_need_told : Option Addr}
  {en_need_told : Nat}
  {esl_need_told : Array (Option Value)}
  de__need_told : K.lookup de_need_told = some ⟨.type "tuple", eod_need_told, .seq #[] en_need_told, esl_need_told⟩
  {oc_Signals_init__ kV_Signals_init__ dc_Signals_init__ pm_Signals_init__ cd_Signals_init__ ct_Signals_init__ : Value}
  {od_Signals_init__ an_Signals_init__ : Option Addr}
  {sl_Signals_init__ : Array (Option Value)}
  l_Signals_init__ : K.lookup f_Signals_init__ = some ⟨oc_Signals_init__, od_Signals_init__, .func (PySem.W.fnOf "__init__" "Signals.__init__" (defArgs s_Signals_init__) (defBody s_Signals_init__) (defScope s_Signals_init__) .none kV_Signals_init__ dc_Signals_init__ pm_Signals_init__ an_Signals_init__ cd_Signals_init__ ct_Signals_init__), sl_Signals_init__⟩
  c_Signals_init__ : PySem.W.codeIn K cd_Signals_init__ "Signals.__init__" = true
  k_Signals_init__ : PySem.W.keepIn K (.ref f_Signals_init__) = true
  {oc_Signals_of kV_Signals_of dc_Signals_of pm_Signals_of cd_Signals_of ct_Signals_of : Value}
  {od_Signals_of an_Signals_of : Option Addr}
  {sl_Signals_of : Array (Option Value)}
  l_Signals_of : K.lookup f_Signals_of = some ⟨oc_Signals_of, od_Signals_of, .func (PySem.W.fnOf "of" "Signals.of" (defArgs s_Signals_of) (defBody s_Signals_of) (defScope s_Signals_of) .none kV_Signals_of dc_Signals_of pm_Signals_of an_Signals_of cd_Signals_of ct_Signals_of), sl_Signals_of⟩
  c_Signals_of : PySem.W.codeIn K cd_Signals_of "Signals.of" = true
  k_Signals_of : PySem.W.keepIn K (.ref f_Signals_of) = true
  {oc_Signals_getitem__ kV_Signals_getitem__ dc_Signals_getitem__ pm_Signals_getitem__ cd_Signals_getitem__ ct_Signals_getitem__ : Value}
  {od_Signals_getitem__ an_Signals_getitem__ : Option Addr}
  {sl_Signals_getitem__ : Array (Option Value)}
  l_Signals_getitem__ : K.lookup f_Signals_getitem__ = some ⟨oc_Signals_getitem__, od_Signals_getitem__, .func (PySem.W.fnOf "__getitem__" "Signals.__getitem__" (defArgs s_Signals_getitem__) (defBody s_Signals_getitem__) (defScope s_Signals_getitem__) .none kV_Signals_getitem__ dc_Signals_getitem__ pm_Signals_getitem__ an_Signals_getitem__ cd_Signals_getitem__ ct_Signals_getitem__), sl_Signals_getitem__⟩
  c_Signals_getitem__ : PySem.W.codeIn K cd_Signals_getitem__ "Signals.__getitem__" = true
  k_Signals_getitem__ : PySem.W.keepIn K (.ref f_Signals_getitem__) = true
  {oc_Signals_or__ kV_Signals_or__ dc_Signals_or__ pm_Signals_or__ cd_Signals_or__ ct_Signals_or__ : Value}
  {od_Signals_or__ an_Signals_or__ : Option Addr}
  {sl_Signals_or__ : Array (Option Value)}
  l_Signals_or__ : K.lookup f_Signals_or__ = some ⟨oc_Signals_or__, od_Signals_or__, .func (PySem.W.fnOf "__or__" "Signals.__or__" (defArgs s_Signals_or__) (defBody s_Signals_or__) (defScope s_Signals_or__) .none kV_Signals_or__ dc_Signals_or__ pm_Signals_or__ an_Signals_or__ cd_Signals_or__ ct_Signals_or__), sl_Signals_or__⟩
  c_Signals_or__ : PySem.W.codeIn K cd_Signals_or__ "Signals.__or__" = true
  k_Signals_or__ : PySem.W.keepIn K (.ref f_Signals_or__) = true
  {f_need_union : Addr}
  g_need_union : mg "need_union" = some (.ref f_need_union)
  {oc_need_union kV_need_union dc_need_union pm_need_union cd_need_union ct_need_union : Value}
  {od_need_union an_need_union : Option Addr}
  {sl_need_union : Array (Option Value)}
  l_need_union : K.lookup f_need_union = some ⟨oc_need_union, od_need_union, .func (PySem.W.fnOf "need_union" "need_union" (defArgs s_need_union) (defBody s_need_union) (defScope s_need_union) .none kV_need_union dc_need_union pm_need_union an_need_union cd_need_union ct_need_union), sl_need_union⟩
  c_need_union : PySem.W.codeIn K cd_need_union "need_union" = true
  k_need_union : PySem.W.keepIn K (.ref f_need_union) = true
  {f_merged : Addr}
  g_merged : mg "merged" = some (.ref f_merged)
  {oc_merged kV_merged dc_merged pm_merged cd_merged ct_merged : Value}
  {od_merged an_merged : Option Addr}
  {sl_merged : Array (Option Value)}
  l_merged : K.lookup f_merged = some ⟨oc_merged, od_merged, .func (PySem.W.fnOf "merged" "merged" (defArgs s_merged) (defBody s_merged) (defScope s_merged) .none kV_merged dc_merged pm_merged an_merged cd_merged ct_merged), sl_merged⟩
  c_merged : PySem.W.codeIn K cd_merged "merged" = true
  k_merged : PySem.W.keepIn K (.ref f_merged) = true
  {f_law_pen : Addr}
  g_law_pen : mg "_law_pen" = some (.ref f_law_pen)
  {oc_law_pen kV_law_pen dc_law_pen pm_law_pen cd_law_pen ct_law_pen : Value}
  {od_law_pen an_law_pen : Option Addr}
  {sl_law_pen : Array (Option Value)}
  l_law_pen : K.lookup f_law_pen = some ⟨oc_law_pen, od_law_pen, .func (PySem.W.fnOf "_law_pen" "_law_pen" (defArgs s_law_pen) (defBody s_law_pen) (defScope s_law_pen) .none kV_law_pen dc_law_pen pm_law_pen an_law_pen cd_law_pen ct_law_pen), sl_law_pen⟩
  c_law_pen : PySem.W.codeIn K cd_law_pen "_law_pen" = true
  k_law_pen : PySem.W.keepIn K (.ref f_law_pen) = true
  {f_law_draw : Addr}
  g_law_draw : mg "_law_draw" = some (.ref f_law_draw)
  {oc_law_draw kV_law_draw dc_law_draw pm_law_draw cd_law_draw ct_law_draw : Value}
  {od_law_draw an_law_draw : Option Addr}
  {sl_law_draw : Array (Option Value)}
  l_law_draw : K.lookup f_law_draw = some ⟨oc_law_draw, od_law_draw, .func (PySem.W.fnOf "_law_draw" "_law_draw" (defArgs s_law_draw) (defBody s_law_draw) (defScope s_law_draw) .none kV_law_draw dc_law_draw pm_law_draw an_law_draw cd_law_draw ct_law_draw), sl_law_draw⟩
  c_law_draw : PySem.W.codeIn K cd_law_draw "_law_draw" = true
  k_law_draw : PySem.W.keepIn K (.ref f_law_draw) = true
  {f_law_pick : Addr}
  g_law_pick : mg "_law_pick" = some (.ref f_law_pick)
  {oc_law_pick kV_law_pick dc_law_pick pm_law_pick cd_law_pick ct_law_pick : Value}
  {od_law_pick an_law_pick : Option Addr}
  {sl_law_pick : Array (Option Value)}
  l_law_pick : K.lookup f_law_pick = some ⟨oc_law_pick, od_law_pick, .func (PySem.W.fnOf "_law_pick" "_law_pick" (defArgs s_law_pick) (defBody s_law_pick) (defScope s_law_pick) .none kV_law_pick dc_law_pick pm_law_pick an_law_pick cd_law_pick ct_law_pick), sl_law_pick⟩
  c_law_pick : PySem.W.codeIn K cd_law_pick "_law_pick" = true
  k_law_pick : PySem.W.keepIn K (.ref f_law_pick) = true
  {f_law_pairs : Addr}
  g_law_pairs : mg "_law_pairs" = some (.ref f_law_pairs)
  {oc_law_pairs kV_law_pairs dc_law_pairs pm_law_pairs cd_law_pairs ct_law_pairs : Value}
  {od_law_pairs an_law_pairs : Option Addr}
  {sl_law_pairs : Array (Option Value)}
  l_law_pairs : K.lookup f_law_pairs = some ⟨oc_law_pairs, od_law_pairs, .func (PySem.W.fnOf "_law_pairs" "_law_pairs" (defArgs s_law_pairs) (defBody s_law_pairs) (defScope s_law_pairs) .none kV_law_pairs dc_law_pairs pm_law_pairs an_law_pairs cd_law_pairs ct_law_pairs), sl_law_pairs⟩
  c_law_pairs : PySem.W.codeIn K cd_law_pairs "_law_pairs" = true
  k_law_pairs : PySem.W.keepIn K (.ref f_law_pairs) = true
  {f_law_due_of : Addr}
  g_law_due_of : mg "_law_due_of" = some (.ref f_law_due_of)
  {oc_law_due_of kV_law_due_of dc_law_due_of pm_law_due_of cd_law_due_of ct_law_due_of : Value}
  {od_law_due_of an_law_due_of : Option Addr}
  {sl_law_due_of : Array (Option Value)}
  l_law_due_of : K.lookup f_law_due_of = some ⟨oc_law_due_of, od_law_due_of, .func (PySem.W.fnOf "_law_due_of" "_law_due_of" (defArgs s_law_due_of) (defBody s_law_due_of) (defScope s_law_due_of) .none kV_law_due_of dc_law_due_of pm_law_due_of an_law_due_of cd_law_due_of ct_law_due_of), sl_law_due_of⟩
  c_law_due_of : PySem.W.codeIn K cd_law_due_of "_law_due_of" = true
  k_law_due_of : PySem.W.keepIn K (.ref f_law_due_of) = true
  {f_law_do_clash : Addr}
  g_law_do_clash : mg "_law_do_clash" = some (.ref f_law_do_clash)
  {oc_law_do_clash kV_law_do_clash dc_law_do_clash pm_law_do_clash cd_law_do_clash ct_law_do_clash : Value}
  {od_law_do_clash an_law_do_clash : Option Addr}
  {sl_law_do_clash : Array (Option Value)}
  l_law_do_clash : K.lookup f_law_do_clash = some ⟨oc_law_do_clash, od_law_do_clash, .func (PySem.W.fnOf "_law_do_clash" "_law_do_clash" (defArgs s_law_do_clash) (defBody s_law_do_clash) (defScope s_law_do_clash) .none kV_law_do_clash dc_law_do_clash pm_law_do_clash an_law_do_clash cd_law_do_clash ct_law_do_clash), sl_law_do_clash⟩
  c_law_do_clash : PySem.W.codeIn K cd_law_do_clash "_law_do_clash" = true
  k_law_do_clash : PySem.W.keepIn K (.ref f_law_do_clash) = true
  {f_law_due : Addr}
  g_law_due : mg "_law_due" = some (.ref f_law_due)
  {oc_law_due kV_law_due dc_law_due pm_law_due cd_law_due ct_law_due : Value}
  {od_law_due an_law_due : Option Addr}
  {sl_law_due : Array (Option Value)}
  l_law_due : K.lookup f_law_due = some ⟨oc_law_due, od_law_due, .func (PySem.W.fnOf "_law_due" "_law_due" (defArgs s_law_due) (defBody s_law_due) (defScope s_law_due) .none kV_law_due dc_law_due pm_law_due an_law_due cd_law_due ct_law_due), sl_law_due⟩
  c_law_due : PySem.W.codeIn K cd_law_due "_law_due" = true
  k_law_due : PySem.W.keepIn K (.ref f_law_due) = true
  {f_law_found : Addr}
  g_law_found : mg "_law_found" = some (.ref f_law_found)
  {oc_law_found kV_law_found dc_law_found pm_law_found cd_law_found ct_law_found : Value}
  {od_law_found an_law_found : Option Addr}
  {sl_law_found : Array (Option Value)}
  l_law_found : K.lookup f_law_found = some ⟨oc_law_found, od_law_found, .func (PySem.W.fnOf "_law_found" "_law_found" (defArgs s_law_found) (defBody s_law_found) (defScope s_law_found) .none kV_law_found dc_law_found pm_law_found an_law_found cd_law_found ct_law_found), sl_law_found⟩
  c_law_found : PySem.W.codeIn K cd_law_found "_law_found" = true
  k_law_found : PySem.W.keepIn K (.ref f_law_found) = true
  {f_law : Addr}
  g_law : mg "law" = some (.ref f_law)
  {oc_law kV_law dc_law pm_law cd_law ct_law : Value}
  {od_law an_law : Option Addr}
  {sl_law : Array (Option Value)}
  l_law : K.lookup f_law = some ⟨oc_law, od_law, .func (PySem.W.fnOf "law" "law" (defArgs s_law) (defBody s_law) (defScope s_law) .none kV_law dc_law pm_law an_law cd_law ct_law), sl_law⟩
  c_law : PySem.W.codeIn K cd_law "law" = true
  k_law : PySem.W.keepIn K (.ref f_law) = true
  {t_DIGITS : Tok}
  g_DIGITS : mg "DIGITS" = some (.str "0123456789" t_DIGITS)
  {t_LETTERS : Tok}
  g_LETTERS : mg "LETTERS" = some (.str "abcdefghijklmnopqrstuvwxyz" t_LETTERS)
  {t_LONGEST : Tok}
  g_LONGEST : mg "LONGEST" = some (.int 8 t_LONGEST)
  {a_RESERVED : Addr}
  {t_RESERVED_0 t_RESERVED_1 t_RESERVED_2 t_RESERVED_3 t_RESERVED_4 : Tok}
  {od_RESERVED : Option Addr}
  {n_RESERVED : Nat}
  {sl_RESERVED : Array (Option Value)}
  g_RESERVED : mg "RESERVED" = some (.ref a_RESERVED)
  k_RESERVED : K.lookup a_RESERVED = some ⟨.type "tuple", od_RESERVED, .seq #[(.str "to" t_RESERVED_0), (.str "if" t_RESERVED_1), (.str "tag" t_RESERVED_2), (.str "all" t_RESERVED_3), (.str "none" t_RESERVED_4)] n_RESERVED, sl_RESERVED⟩
  z_abs : mg "abs" = none
  z_all : mg "all" = none
  z_bool : mg "bool" = none
  z_dict : mg "dict" = none
  z_enumerate : mg "enumerate" = none
  z_int : mg "int" = none
  z_isinstance : mg "isinstance" = none
  z_len : mg "len" = none
  z_list : mg "list" = none
  z_range : mg "range" = none
  z_sorted : mg "sorted" = none
  z_str : mg "str" = none
  z_tuple : mg "tuple" = none
section
variable {P : Program} {w : World} {K : PySem.W.Frag} {mg : Str → Option Value} {base : Heap}
theorem Tx.F_InvalidName_init__ (T : Tx K mg) : Fun K "__init__" "InvalidName.__init__" s_InvalidName_init__ T.f_InvalidName_init__ (PySem.W.fnOf "__init__" "InvalidName.__init__" (defArgs s_InvalidName_init__) (defBody s_InvalidName_init__) (defScope s_InvalidName_init__) .none T.kV_InvalidName_init__ T.dc_InvalidName_init__ T.pm_InvalidName_init__ T.an_InvalidName_init__ T.cd_InvalidName_init__ T.ct_InvalidName_init__) := fun_mk T.l_InvalidName_init__ T.c_InvalidName_init__ T.k_InvalidName_init__
theorem Tx.b_InvalidName_init__ (T : Tx K mg) : Binds K (PySem.W.fnOf "__init__" "InvalidName.__init__" (defArgs s_InvalidName_init__) (defBody s_InvalidName_init__) (defScope s_InvalidName_init__) .none T.kV_InvalidName_init__ T.dc_InvalidName_init__ T.pm_InvalidName_init__ T.an_InvalidName_init__ T.cd_InvalidName_init__ T.ct_InvalidName_init__) p_InvalidName_init__ [] := T.F_InvalidName_init__.binds fun _ _ _ _ _ _ us hl => match us, hl with | [_, _], _ => rfl
theorem ok_InvalidName_init__ (T : Tx K mg) : FnOk P w K mg base CX0 1 T.f_InvalidName_init__ (PySem.W.fnOf "__init__" "InvalidName.__init__" (defArgs s_InvalidName_init__) (defBody s_InvalidName_init__) (defScope s_InvalidName_init__) .none T.kV_InvalidName_init__ T.dc_InvalidName_init__ T.pm_InvalidName_init__ T.an_InvalidName_init__ T.cd_InvalidName_init__ T.ct_InvalidName_init__) p_InvalidName_init__ (spI T.C_InvalidName ["value"]) :=
  init_1 T.F_InvalidName_init__ sc_InvalidName_init__ rfl T.ox_InvalidName T.xi_InvalidName_value rfl rfl
theorem Tx.F_InvalidNumber_init__ (T : Tx K mg) : Fun K "__init__" "InvalidNumber.__init__" s_InvalidNumber_init__ T.f_InvalidNumber_init__ (PySem.W.fnOf "__init__" "InvalidNumber.__init__" (defArgs s_InvalidNumber_init__) (defBody s_InvalidNumber_init__) (defScope s_InvalidNumber_init__) .none T.kV_InvalidNumber_init__ T.dc_InvalidNumber_init__ T.pm_InvalidNumber_init__ T.an_InvalidNumber_init__ T.cd_InvalidNumber_init__ T.ct_InvalidNumber_init__) := fun_mk T.l_InvalidNumber_init__ T.c_InvalidNumber_init__ T.k_InvalidNumber_init__
theorem Tx.b_InvalidNumber_init__ (T : Tx K mg) : Binds K (PySem.W.fnOf "__init__" "InvalidNumber.__init__" (defArgs s_InvalidNumber_init__) (defBody s_InvalidNumber_init__) (defScope s_InvalidNumber_init__) .none T.kV_InvalidNumber_init__ T.dc_InvalidNumber_init__ T.pm_InvalidNumber_init__ T.an_InvalidNumber_init__ T.cd_InvalidNumber_init__ T.ct_InvalidNumber_init__) p_InvalidNumber_init__ [] := T.F_InvalidNumber_init__.binds fun _ _ _ _ _ _ us hl => match us, hl with | [_, _], _ => rfl
theorem ok_InvalidNumber_init__ (T : Tx K mg) : FnOk P w K mg base CX0 1 T.f_InvalidNumber_init__ (PySem.W.fnOf "__init__" "InvalidNumber.__init__" (defArgs s_InvalidNumber_init__) (defBody s_InvalidNumber_init__) (defScope s_InvalidNumber_init__) .none T.kV_InvalidNumber_init__ T.dc_InvalidNumber_init__ T.pm_InvalidNumber_init__ T.an_InvalidNumber_init__ T.cd_InvalidNumber_init__ T.ct_InvalidNumber_init__) p_InvalidNumber_init__ (spI T.C_InvalidNumber ["value"]) :=
  init_1 T.F_InvalidNumber_init__ sc_InvalidNumber_init__ rfl T.ox_InvalidNumber T.xi_InvalidNumber_value rfl rfl
theorem Tx.F_FieldClash_init__ (T : Tx K mg) : Fun K "__init__" "FieldClash.__init__" s_FieldClash_init__ T.f_FieldClash_init__ (PySem.W.fnOf "__init__" "FieldClash.__init__" (defArgs s_FieldClash_init__) (defBody s_FieldClash_init__) (defScope s_FieldClash_init__) .none T.kV_FieldClash_init__ T.dc_FieldClash_init__ T.pm_FieldClash_init__ T.an_FieldClash_init__ T.cd_FieldClash_init__ T.ct_FieldClash_init__) := fun_mk T.l_FieldClash_init__ T.c_FieldClash_init__ T.k_FieldClash_init__
theorem Tx.b_FieldClash_init__ (T : Tx K mg) : Binds K (PySem.W.fnOf "__init__" "FieldClash.__init__" (defArgs s_FieldClash_init__) (defBody s_FieldClash_init__) (defScope s_FieldClash_init__) .none T.kV_FieldClash_init__ T.dc_FieldClash_init__ T.pm_FieldClash_init__ T.an_FieldClash_init__ T.cd_FieldClash_init__ T.ct_FieldClash_init__) p_FieldClash_init__ [] := T.F_FieldClash_init__.binds fun _ _ _ _ _ _ us hl => match us, hl with | [_, _, _, _], _ => rfl
theorem ok_FieldClash_init__ (T : Tx K mg) : FnOk P w K mg base CX0 1 T.f_FieldClash_init__ (PySem.W.fnOf "__init__" "FieldClash.__init__" (defArgs s_FieldClash_init__) (defBody s_FieldClash_init__) (defScope s_FieldClash_init__) .none T.kV_FieldClash_init__ T.dc_FieldClash_init__ T.pm_FieldClash_init__ T.an_FieldClash_init__ T.cd_FieldClash_init__ T.ct_FieldClash_init__) p_FieldClash_init__ (spI T.C_FieldClash ["field", "one", "other"]) :=
  init_3 T.F_FieldClash_init__ sc_FieldClash_init__ rfl T.ox_FieldClash T.xi_FieldClash_field T.xi_FieldClash_one T.xi_FieldClash_other rfl rfl rfl rfl
theorem Tx.F_Clash_init__ (T : Tx K mg) : Fun K "__init__" "Clash.__init__" s_Clash_init__ T.f_Clash_init__ (PySem.W.fnOf "__init__" "Clash.__init__" (defArgs s_Clash_init__) (defBody s_Clash_init__) (defScope s_Clash_init__) .none T.kV_Clash_init__ T.dc_Clash_init__ T.pm_Clash_init__ T.an_Clash_init__ T.cd_Clash_init__ T.ct_Clash_init__) := fun_mk T.l_Clash_init__ T.c_Clash_init__ T.k_Clash_init__
theorem Tx.b_Clash_init__ (T : Tx K mg) : Binds K (PySem.W.fnOf "__init__" "Clash.__init__" (defArgs s_Clash_init__) (defBody s_Clash_init__) (defScope s_Clash_init__) .none T.kV_Clash_init__ T.dc_Clash_init__ T.pm_Clash_init__ T.an_Clash_init__ T.cd_Clash_init__ T.ct_Clash_init__) p_Clash_init__ [] := T.F_Clash_init__.binds fun _ _ _ _ _ _ us hl => match us, hl with | [_, _, _], _ => rfl
theorem ok_Clash_init__ (T : Tx K mg) : FnOk P w K mg base CX0 1 T.f_Clash_init__ (PySem.W.fnOf "__init__" "Clash.__init__" (defArgs s_Clash_init__) (defBody s_Clash_init__) (defScope s_Clash_init__) .none T.kV_Clash_init__ T.dc_Clash_init__ T.pm_Clash_init__ T.an_Clash_init__ T.cd_Clash_init__ T.ct_Clash_init__) p_Clash_init__ (spI T.C_Clash ["lesser", "name"]) :=
  init_2 T.F_Clash_init__ sc_Clash_init__ rfl T.ox_Clash T.xi_Clash_lesser T.xi_Clash_name rfl rfl rfl
theorem okH_Clash_init__ (T : Tx K mg) : L2H.FnH P w K mg base CX0 1 T.f_Clash_init__ (PySem.W.fnOf "__init__" "Clash.__init__" (defArgs s_Clash_init__) (defBody s_Clash_init__) (defScope s_Clash_init__) .none T.kV_Clash_init__ T.dc_Clash_init__ T.pm_Clash_init__ T.an_Clash_init__ T.cd_Clash_init__ T.ct_Clash_init__) p_Clash_init__ (spI T.C_Clash ["lesser", "name"]) :=
  init_2H T.F_Clash_init__ sc_Clash_init__ rfl T.ox_Clash T.xi_Clash_lesser T.xi_Clash_name rfl rfl rfl
theorem Tx.F_is_integer (T : Tx K mg) : Fun K "is_integer" "is_integer" s_is_integer T.f_is_integer (PySem.W.fnOf "is_integer" "is_integer" (defArgs s_is_integer) (defBody s_is_integer) (defScope s_is_integer) .none T.kV_is_integer T.dc_is_integer T.pm_is_integer T.an_is_integer T.cd_is_integer T.ct_is_integer) := fun_mk T.l_is_integer T.c_is_integer T.k_is_integer
theorem Tx.b_is_integer (T : Tx K mg) : Binds K (PySem.W.fnOf "is_integer" "is_integer" (defArgs s_is_integer) (defBody s_is_integer) (defScope s_is_integer) .none T.kV_is_integer T.dc_is_integer T.pm_is_integer T.an_is_integer T.cd_is_integer T.ct_is_integer) p_is_integer [] := T.F_is_integer.binds fun _ _ _ _ _ _ us hl => match us, hl with | [_], _ => rfl
theorem ok_is_integer (T : Tx K mg) : FnOk P w K mg base CX0 2 T.f_is_integer (PySem.W.fnOf "is_integer" "is_integer" (defArgs s_is_integer) (defBody s_is_integer) (defScope s_is_integer) .none T.kV_is_integer T.dc_is_integer T.pm_is_integer T.an_is_integer T.cd_is_integer T.ct_is_integer) p_is_integer (toSp K sp_is_integer) :=
  dfn2 T.F_is_integer sc_is_integer len_is_integer fun B cdv A outer s H E hr => ⟨w_is_integer,
    (ds_one (d_ret (d_andV (d_callB call_isi cIsi_ok (by rfl) T.z_isinstance (by decide +kernel) (da_cons (d_var (i := 0)) (da_cons (d_ty T.z_int (by decide +kernel)) da_nil))) (d_one (d_notV (d_callB call_isi cIsi_ok (by rfl) T.z_isinstance (by decide +kernel) (da_cons (d_var (i := 0)) (da_cons (d_ty T.z_bool (by decide +kernel)) da_nil)))))))),
    wp_is_integer⟩
theorem Tx.F_is_between (T : Tx K mg) : Fun K "is_between" "is_between" s_is_between T.f_is_between (PySem.W.fnOf "is_between" "is_between" (defArgs s_is_between) (defBody s_is_between) (defScope s_is_between) .none T.kV_is_between T.dc_is_between T.pm_is_between T.an_is_between T.cd_is_between T.ct_is_between) := fun_mk T.l_is_between T.c_is_between T.k_is_between
theorem Tx.b_is_between (T : Tx K mg) : Binds K (PySem.W.fnOf "is_between" "is_between" (defArgs s_is_between) (defBody s_is_between) (defScope s_is_between) .none T.kV_is_between T.dc_is_between T.pm_is_between T.an_is_between T.cd_is_between T.ct_is_between) p_is_between [] := T.F_is_between.binds fun _ _ _ _ _ _ us hl => match us, hl with | [_, _, _], _ => rfl
theorem ok_is_between (T : Tx K mg) : FnOk P w K mg base CX0 4 T.f_is_between (PySem.W.fnOf "is_between" "is_between" (defArgs s_is_between) (defBody s_is_between) (defScope s_is_between) .none T.kV_is_between T.dc_is_between T.pm_is_between T.an_is_between T.cd_is_between T.ct_is_between) p_is_between (toSp K sp_is_between) :=
  dfn2 T.F_is_between sc_is_between len_is_between fun B cdv A outer s H E hr => ⟨w_is_between,
    (ds_one (d_ret (d_andV (d_call (ok_is_integer T) (hr.mono (by decide)) (by rfl) T.g_is_integer T.F_is_integer.kp T.b_is_integer .nil (fun _ _ => .nil) (da_cons (d_var (i := 0)) da_nil)) (d_one (d_chain op_le oLe_ok op_le oLe_ok (d_var (i := 1)) (d_var (i := 0)) (d_var (i := 2))))))),
    wp_is_between⟩
theorem Tx.F_is_name (T : Tx K mg) : Fun K "is_name" "is_name" s_is_name T.f_is_name (PySem.W.fnOf "is_name" "is_name" (defArgs s_is_name) (defBody s_is_name) (defScope s_is_name) .none T.kV_is_name T.dc_is_name T.pm_is_name T.an_is_name T.cd_is_name T.ct_is_name) := fun_mk T.l_is_name T.c_is_name T.k_is_name
theorem Tx.b_is_name (T : Tx K mg) : Binds K (PySem.W.fnOf "is_name" "is_name" (defArgs s_is_name) (defBody s_is_name) (defScope s_is_name) .none T.kV_is_name T.dc_is_name T.pm_is_name T.an_is_name T.cd_is_name T.ct_is_name) p_is_name [] := T.F_is_name.binds fun _ _ _ _ _ _ us hl => match us, hl with | [_], _ => rfl
theorem ok_is_name (T : Tx K mg) : FnOk P w K mg base CX0 2 T.f_is_name (PySem.W.fnOf "is_name" "is_name" (defArgs s_is_name) (defBody s_is_name) (defScope s_is_name) .none T.kV_is_name T.dc_is_name T.pm_is_name T.an_is_name T.cd_is_name T.ct_is_name) p_is_name (toSp K sp_is_name) :=
  dfn2 T.F_is_name sc_is_name len_is_name fun B cdv A outer s H E hr => ⟨w_is_name,
    (ds_cons (d_if (L2.PW.pt (d_or (d_not (d_truth (d_callB call_isi cIsi_ok (by rfl) T.z_isinstance (by decide +kernel) (da_cons (d_var (i := 0)) (da_cons (d_ty T.z_str (by decide +kernel)) da_nil))))) (d_or (d_not (d_chainT op_le oLe_ok op_le oLe_ok d_int (d_callB callLen cLen_ok (by rfl) T.z_len (by decide +kernel) (da_cons (d_var (i := 0)) da_nil)) (d_gint T.g_LONGEST))) (d_or1 (d_cmpT opIn oIn_ok (d_var (i := 0)) (d_gtup T.g_RESERVED T.k_RESERVED rfl rfl (Nat.le_of_ble_eq_true rfl) rfl) (by rfl)))))) (ds_one (d_ret d_bl)) ds_nil)
    (ds_one (d_ret (d_andV (d_cmp opIn oIn_ok (d_ix (d_var (i := 0)) d_int) (d_gstr T.g_LETTERS) (by rfl)) (d_one (d_callB (cr_all rfl) cAll_ok (by rfl) T.z_all (by decide +kernel) (da_cons (d_lc (own := [("sign", 1)]) rfl sc_is_name.nd (di_any (d_var (i := 0))) (blkOk_by (by show blkC N_is_name (defScope s_is_name) _ _ = true; decide +kernel)) (fun _ _ _ _ _ => pg_name (i := 1) sc_is_name.nd rfl (Or.inl rfl)) (binds_one (by decide)) (fun _ _ _ _ _ => dts_nil) (fun _ _ _ _ _ => (d_orV (d_cmp opIn oIn_ok (d_var (i := 1)) (d_gstr T.g_LETTERS) (by rfl)) (d_one (d_cmp opIn oIn_ok (d_var (i := 1)) (d_gstr T.g_DIGITS) (by rfl)))))) da_nil))))))),
    wp_is_name⟩
theorem Tx.b0_need_told (T : Tx K mg) : Binds K (PySem.W.fnOf "need_told" "need_told" (defArgs s_need_told) (defBody s_need_told) (defScope s_need_told) (.ref T.df_need_told) T.kV_need_told T.dc_need_told T.pm_need_told T.an_need_told T.cd_need_told T.ct_need_told) p_need_told [] := binds_dflt (m := 3) rfl T.df__need_told rfl rfl fun us hl => match us, hl with | [_, _, _], _ => ⟨_, rfl, rfl⟩
theorem Tx.b1_need_told (T : Tx K mg) : Binds K (PySem.W.fnOf "need_told" "need_told" (defArgs s_need_told) (defBody s_need_told) (defScope s_need_told) (.ref T.df_need_told) T.kV_need_told T.dc_need_told T.pm_need_told T.an_need_told T.cd_need_told T.ct_need_told) p_need_told [.ref T.de_need_told] := binds_dflt (m := 2) rfl T.df__need_told rfl rfl fun us hl => match us, hl with | [_, _], _ => ⟨_, rfl, rfl⟩
theorem Tx.dd_need_told (T : Tx K mg) (P : Hp) (al : List Addr) : Reps K P al [.tup []] [.ref T.de_need_told] := .cons (.tup (.inr ⟨_, _, _, T.de__need_told, rfl, rfl, Nat.zero_le _, .nil⟩) .nil) .nil
theorem ok_need_told (T : Tx K mg) : FnOk P w K mg base (L2.CX P w) 6 T.f_need_told (PySem.W.fnOf "need_told" "need_told" (defArgs s_need_told) (defBody s_need_told) (defScope s_need_told) (.ref T.df_need_told) T.kV_need_told T.dc_need_told T.pm_need_told T.an_need_told T.cd_need_told T.ct_need_told) p_need_told (toSp K sp_need_told) :=
  dfnRX (k := 5) T.l_need_told T.c_need_told sc_need_told len_need_told (fun A outer s H E hr B RX tk =>
    (ds_cons (d_if (L2.PW.pt (d_or (d_not (d_truth (d_call (ok_is_name T) (hr.mono (by decide)) (by rfl) T.g_is_name T.F_is_name.kp T.b_is_name .nil (fun _ _ => .nil) (da_cons (d_var (i := 0)) da_nil)))) (d_or1 (d_cmpT (opIn.or (opInDK (hu_of hr))) oInU_ok (d_var (i := 0)) (d_var (i := 2)) (by rfl))))) (ds_one (d_raise rfl tk T.at_InvalidName T.ox_InvalidName T.ii_InvalidName T.ti_InvalidName (ok_InvalidName_init__ T) (by decide) (hr.mono (by decide)) T.b_InvalidName_init__ (by rfl) T.m_InvalidName (da_cons (d_var (i := 0)) da_nil))) ds_nil)
    (ds_one (d_if (d_not (d_truth (d_call (ok_is_between T) (hr.mono (by decide)) (by rfl) T.g_is_between T.F_is_between.kp T.b_is_between .nil (fun _ _ => .nil) (da_cons (d_var (i := 1)) (da_cons d_int (da_cons (d_cvalI T.at_Signals T.cr_Signals T.cv_Signals_MOST (d_gcls (by rfl) T.m_Signals T.at_Signals)) da_nil)))))) (ds_one (d_raise rfl tk T.at_InvalidNumber T.ox_InvalidNumber T.ii_InvalidNumber T.ti_InvalidNumber (ok_InvalidNumber_init__ T) (by decide) (hr.mono (by decide)) T.b_InvalidNumber_init__ (by rfl) T.m_InvalidNumber (da_cons (d_var (i := 1)) da_nil))) ds_nil)))) wp_need_told
theorem Tx.F_Signals_init__ (T : Tx K mg) : Fun K "__init__" "Signals.__init__" s_Signals_init__ T.f_Signals_init__ (PySem.W.fnOf "__init__" "Signals.__init__" (defArgs s_Signals_init__) (defBody s_Signals_init__) (defScope s_Signals_init__) .none T.kV_Signals_init__ T.dc_Signals_init__ T.pm_Signals_init__ T.an_Signals_init__ T.cd_Signals_init__ T.ct_Signals_init__) := fun_mk T.l_Signals_init__ T.c_Signals_init__ T.k_Signals_init__
theorem ok_Signals_init__ (T : Tx K mg) : FnW P w K mg base (L2.CX P w) 8 T.f_Signals_init__ (spKw K "this_object" sp_Signals_init__) :=
  dfnK T.F_Signals_init__ sc_Signals_init__ rfl rfl rfl rfl rfl (fun cdv A outer s H E hr B RX tk =>
    (ds_cons (d_for (L2.passes_of rfl) rfl (di_any (d_callB cr_sortedS cSortS_ok (by rfl) T.z_sorted (by decide +kernel) (da_cons (d_callTy (callListA rfl) cListA_ok (by rfl) T.z_list (by decide +kernel) (da_cons (d_var (i := 1)) da_nil)) da_nil))) (dg_name (i := 2) sc_Signals_init__.nd) (ds_one (d_exp (d_callX (ok_need_told T) (hr.mono (by decide)) tk (by rfl) T.g_need_told T.k_need_told T.b1_need_told (.cons (show L2.RelV (.ref T.de_need_told) (.ref T.de_need_told) from rfl) .nil) (T.dd_need_told) (da_cons (d_var (i := 2)) (da_cons (d_dget (hu_of hr) (d_var (i := 1)) (d_var (i := 2))) da_nil))))))
    (ds_one (d_setF T.at_Signals T.cl_Signals T.na_Signals_told (d_var (i := 0)) (d_callTy call_tupP cTupP_ok (by rfl) T.z_tuple (by decide +kernel) (da_cons (d_lc (own := [("field", 2)]) rfl sc_Signals_init__.nd (di_any (d_callB cr_sortedS cSortS_ok (by rfl) T.z_sorted (by decide +kernel) (da_cons (d_callTy (callListA rfl) cListA_ok (by rfl) T.z_list (by decide +kernel) (da_cons (d_var (i := 1)) da_nil)) da_nil))) (blkOk_by (by show blkC N_Signals_init__ (defScope s_Signals_init__) _ _ = true; decide +kernel)) (fun _ _ _ _ _ => pg_name (i := 2) sc_Signals_init__.nd rfl (Or.inl rfl)) (binds_one (by decide)) (fun _ _ _ _ _ => (dts_one (d_cmpT (opNe hr.units) oNeI_ok (d_dget (hu_of hr) (d_var (i := 1)) (d_var (i := 2))) d_int (nomark _)))) (fun _ _ _ _ _ => (d_tup (da_cons (d_var (i := 2)) (da_cons (d_dget (hu_of hr) (d_var (i := 1)) (d_var (i := 2))) da_nil))))) da_nil)))))) wp_Signals_init__
theorem Tx.F_Signals_of (T : Tx K mg) : Fun K "of" "Signals.of" s_Signals_of T.f_Signals_of (PySem.W.fnOf "of" "Signals.of" (defArgs s_Signals_of) (defBody s_Signals_of) (defScope s_Signals_of) .none T.kV_Signals_of T.dc_Signals_of T.pm_Signals_of T.an_Signals_of T.cd_Signals_of T.ct_Signals_of) := fun_mk T.l_Signals_of T.c_Signals_of T.k_Signals_of
theorem Tx.b_Signals_of (T : Tx K mg) : Binds K (PySem.W.fnOf "of" "Signals.of" (defArgs s_Signals_of) (defBody s_Signals_of) (defScope s_Signals_of) .none T.kV_Signals_of T.dc_Signals_of T.pm_Signals_of T.an_Signals_of T.cd_Signals_of T.ct_Signals_of) p_Signals_of [] := T.F_Signals_of.binds fun _ _ _ _ _ _ us hl => match us, hl with | [_, _], _ => rfl
theorem ok_Signals_of (T : Tx K mg) : FnR P w K mg base (L2.CX P w) 10 T.f_Signals_of (toSp K sp_Signals_of) := fnR0 (FnOk.mono (j := 10) (dfnX T.F_Signals_of sc_Signals_of len_Signals_of fun B cdv A outer s H E hr => ⟨w_Signals_of, fun RX tk =>
    (ds_cons (d_set (i := 2) sc_Signals_of.nd (d_dict0 true))
    (ds_cons (d_for (L2.passes_of rfl) rfl (di_any (d_var (i := 1))) (dg_tup rfl (dgs_cons (dg_name (i := 3) sc_Signals_of.nd) (dgs_cons (dg_name (i := 4) sc_Signals_of.nd) dgs_nil))) (ds_cons (d_exp (d_callX (ok_need_told T) (hr.mono (by decide)) tk (by rfl) T.g_need_told T.k_need_told T.b0_need_told (.nil) (fun _ _ => .nil) (da_cons (d_var (i := 3)) (da_cons (d_var (i := 4)) (da_cons (d_var (i := 2)) da_nil)))))
    (ds_one (d_dput (hu_of hr) (d_var (i := 2)) (d_var (i := 3)) (d_var (i := 4))))))
    (ds_one (d_ret (d_mkSL T.at_Signals T.mk_Signals (ok_Signals_init__ T) (hr.mono (by decide)) (rzX tk) (i := 2) (j := 0) rfl (Or.inl rfl) rfl (Or.inl rfl)))))),
    wp_Signals_of⟩) (by decide)) T.b_Signals_of
theorem Tx.F_Signals_getitem__ (T : Tx K mg) : Fun K "__getitem__" "Signals.__getitem__" s_Signals_getitem__ T.f_Signals_getitem__ (PySem.W.fnOf "__getitem__" "Signals.__getitem__" (defArgs s_Signals_getitem__) (defBody s_Signals_getitem__) (defScope s_Signals_getitem__) .none T.kV_Signals_getitem__ T.dc_Signals_getitem__ T.pm_Signals_getitem__ T.an_Signals_getitem__ T.cd_Signals_getitem__ T.ct_Signals_getitem__) := fun_mk T.l_Signals_getitem__ T.c_Signals_getitem__ T.k_Signals_getitem__
theorem Tx.b_Signals_getitem__ (T : Tx K mg) : Binds K (PySem.W.fnOf "__getitem__" "Signals.__getitem__" (defArgs s_Signals_getitem__) (defBody s_Signals_getitem__) (defScope s_Signals_getitem__) .none T.kV_Signals_getitem__ T.dc_Signals_getitem__ T.pm_Signals_getitem__ T.an_Signals_getitem__ T.cd_Signals_getitem__ T.ct_Signals_getitem__) p_Signals_getitem__ [] := T.F_Signals_getitem__.binds fun _ _ _ _ _ _ us hl => match us, hl with | [_, _], _ => rfl
theorem ok_Signals_getitem__ (T : Tx K mg) : FnR P w K mg base (L2.CX P w) 4 T.f_Signals_getitem__ (toSp K sp_Signals_getitem__) := fnR0 (FnOk.mono (j := 4) (dfnX T.F_Signals_getitem__ sc_Signals_getitem__ len_Signals_getitem__ fun B cdv A outer s H E hr => ⟨w_Signals_getitem__, fun RX tk =>
    (ds_cons (d_if (d_not (d_truth (d_call (ok_is_name T) (hr.mono (by decide)) (by rfl) T.g_is_name T.F_is_name.kp T.b_is_name .nil (fun _ _ => .nil) (da_cons (d_var (i := 1)) da_nil)))) (ds_one (d_raise rfl tk T.at_InvalidName T.ox_InvalidName T.ii_InvalidName T.ti_InvalidName (ok_InvalidName_init__ T) (by decide) (hr.mono (by decide)) T.b_InvalidName_init__ (by rfl) T.m_InvalidName (da_cons (d_var (i := 1)) da_nil))) ds_nil)
    (ds_one (d_ret (d_get2 (hu_of hr) (d_callTy (call_dictT rfl) cDictT_ok (by rfl) T.z_dict (by decide +kernel) (da_cons (d_fld T.at_Signals T.cl_Signals T.na_Signals_told (d_var (i := 0))) da_nil)) (d_var (i := 1)) d_int)))),
    wp_Signals_getitem__⟩) (by decide)) T.b_Signals_getitem__
theorem Tx.F_Signals_or__ (T : Tx K mg) : Fun K "__or__" "Signals.__or__" s_Signals_or__ T.f_Signals_or__ (PySem.W.fnOf "__or__" "Signals.__or__" (defArgs s_Signals_or__) (defBody s_Signals_or__) (defScope s_Signals_or__) .none T.kV_Signals_or__ T.dc_Signals_or__ T.pm_Signals_or__ T.an_Signals_or__ T.cd_Signals_or__ T.ct_Signals_or__) := fun_mk T.l_Signals_or__ T.c_Signals_or__ T.k_Signals_or__
theorem Tx.b_Signals_or__ (T : Tx K mg) : Binds K (PySem.W.fnOf "__or__" "Signals.__or__" (defArgs s_Signals_or__) (defBody s_Signals_or__) (defScope s_Signals_or__) .none T.kV_Signals_or__ T.dc_Signals_or__ T.pm_Signals_or__ T.an_Signals_or__ T.cd_Signals_or__ T.ct_Signals_or__) p_Signals_or__ [] := T.F_Signals_or__.binds fun _ _ _ _ _ _ us hl => match us, hl with | [_, _], _ => rfl
theorem ok_Signals_or__ (T : Tx K mg) : FnR P w K mg base (L2N.CX P w) 10 T.f_Signals_or__ (toSp K sp_Signals_or__) := fnR0 (FnOk.mono (j := 10) (dfnXN T.F_Signals_or__ sc_Signals_or__ len_Signals_or__ fun B cdv A outer s H E hr => ⟨w_Signals_or__, fun RX tk =>
    (ds_cons (d_for (L2.passes_of rfl) rfl (di_any (d_fgt (d_fld T.at_Signals T.cl_Signals T.na_Signals_told (d_var (i := 0))))) (dg_tup rfl (dgs_cons (dg_name (i := 3) sc_Signals_or__.nd) (dgs_cons (dg_name (i := 4) sc_Signals_or__.nd) dgs_nil))) (ds_cons (d_set (i := 5) sc_Signals_or__.nd (d_subO T.at_Signals T.oc_Signals___getitem__ T.fn_Signals___getitem__ (ok_Signals_getitem__ T) (hr.mono (by decide)) rzN (d_var (i := 1)) (d_var (i := 3))))
    (ds_one (d_if (d_cmpT opNotIn oIn_ok (d_var (i := 5)) (d_tup (da_cons d_int (da_cons (d_var (i := 4)) da_nil))) (by rfl)) (ds_one (d_raiseN rfl tk T.at_FieldClash T.ox_FieldClash T.ii_FieldClash T.ti_FieldClash (ok_FieldClash_init__ T) (by decide) (hr.mono (by decide)) T.b_FieldClash_init__ (by rfl) T.m_FieldClash (da_cons (d_var (i := 3)) (da_cons (d_var (i := 4)) (da_cons (d_var (i := 5)) da_nil))))) ds_nil))))
    (ds_cons (d_set (i := 2) sc_Signals_or__.nd (d_callTy (call_dictT rfl) cDictT_ok (by rfl) T.z_dict (by decide +kernel) (da_cons (d_op op_catP oCatP_ok (d_fld T.at_Signals T.cl_Signals T.na_Signals_told (d_var (i := 0))) (d_fld T.at_Signals T.cl_Signals T.na_Signals_told (d_var (i := 1)))) da_nil)))
    (ds_one (d_ret (d_mkS T.at_Signals T.mk_Signals (ok_Signals_init__ T) (hr.mono (by decide)) rzN (by rfl) T.m_Signals (i := 2) rfl (Or.inl rfl)))))),
    wp_Signals_or__⟩) (by decide)) T.b_Signals_or__
theorem Tx.F_need_union (T : Tx K mg) : Fun K "need_union" "need_union" s_need_union T.f_need_union (PySem.W.fnOf "need_union" "need_union" (defArgs s_need_union) (defBody s_need_union) (defScope s_need_union) .none T.kV_need_union T.dc_need_union T.pm_need_union T.an_need_union T.cd_need_union T.ct_need_union) := fun_mk T.l_need_union T.c_need_union T.k_need_union
theorem Tx.b_need_union (T : Tx K mg) : Binds K (PySem.W.fnOf "need_union" "need_union" (defArgs s_need_union) (defBody s_need_union) (defScope s_need_union) .none T.kV_need_union T.dc_need_union T.pm_need_union T.an_need_union T.cd_need_union T.ct_need_union) p_need_union [] := T.F_need_union.binds fun _ _ _ _ _ _ us hl => match us, hl with | [_, _, _], _ => rfl
theorem ok_need_union (T : Tx K mg) : FnOk P w K mg base (L2.CX P w) 12 T.f_need_union (PySem.W.fnOf "need_union" "need_union" (defArgs s_need_union) (defBody s_need_union) (defScope s_need_union) .none T.kV_need_union T.dc_need_union T.pm_need_union T.an_need_union T.cd_need_union T.ct_need_union) p_need_union (toSp K sp_need_union) :=
  dfnX T.F_need_union sc_need_union len_need_union fun B cdv A outer s H E hr => ⟨w_need_union, fun RX tk =>
    (ds_one (d_tryFrom (i := 3) rfl rfl sc_need_union.nd rfl (by rfl) ⟨by rfl, by decide, .inl T.m_FieldClash⟩ tk (L2H.passesAt_of rfl) (ExAll.cons T.at_FieldClash T.xm_FieldClash_FieldClash ExAll.nil).look (RaTab.cons T.at_FieldClash T.ox_FieldClash RaTab.nil).look (fun B RX pn xe tk => (ds_one (d_ret (d_orO T.at_Signals T.sf_Signals T.oc_Signals___or__ (ok_Signals_or__ T) (hr.mono (by decide)) (rzNN tk) (d_dget (hu_of hr) (d_var (i := 0)) (d_var (i := 1))) (d_dget (hu_of hr) (d_var (i := 0)) (d_var (i := 2))))))) T.at_Clash T.ox_Clash T.ii_Clash T.ti_Clash (okH_Clash_init__ T) (by decide) (hr.mono (by decide)) T.b_Clash_init__ (by rfl) T.m_Clash (fun B a pn => (da_cons (d_var (i := 1)) (da_cons (d_var (i := 2)) da_nil))))),
    wp_need_union⟩
theorem Tx.F_merged (T : Tx K mg) : Fun K "merged" "merged" s_merged T.f_merged (PySem.W.fnOf "merged" "merged" (defArgs s_merged) (defBody s_merged) (defScope s_merged) .none T.kV_merged T.dc_merged T.pm_merged T.an_merged T.cd_merged T.ct_merged) := fun_mk T.l_merged T.c_merged T.k_merged
theorem Tx.b_merged (T : Tx K mg) : Binds K (PySem.W.fnOf "merged" "merged" (defArgs s_merged) (defBody s_merged) (defScope s_merged) .none T.kV_merged T.dc_merged T.pm_merged T.an_merged T.cd_merged T.ct_merged) p_merged [] := T.F_merged.binds fun _ _ _ _ _ _ us hl => match us, hl with | [_], _ => rfl
theorem ok_merged (T : Tx K mg) : FnOk P w K mg base (L2.CX P w) 14 T.f_merged (PySem.W.fnOf "merged" "merged" (defArgs s_merged) (defBody s_merged) (defScope s_merged) .none T.kV_merged T.dc_merged T.pm_merged T.an_merged T.cd_merged T.ct_merged) p_merged (toSp K sp_merged) :=
  dfnX T.F_merged sc_merged len_merged fun B cdv A outer s H E hr => ⟨w_merged, fun RX tk =>
    (ds_cons (d_set (i := 1) sc_merged.nd (d_mkKw0 T.at_Signals T.mk_Signals (ok_Signals_init__ T) (hr.mono (by decide)) (rzX tk) (by rfl) T.m_Signals))
    (ds_cons (d_set (i := 2) sc_merged.nd (d_callB cr_sortedS cSortS_ok (by rfl) T.z_sorted (by decide +kernel) (da_cons (d_callTy (callListA rfl) cListA_ok (by rfl) T.z_list (by decide +kernel) (da_cons (d_var (i := 0)) da_nil)) da_nil)))
    (ds_cons (d_for (L2.passes_of rfl) rfl (di_enumerate (by rfl) T.z_enumerate (da_cons (d_var (i := 2)) da_nil)) (dg_tup rfl (dgs_cons (dg_name (i := 3) sc_merged.nd) (dgs_cons (dg_name (i := 4) sc_merged.nd) dgs_nil))) (ds_cons (d_for (L2.passes_of rfl) rfl (di_any (d_sl (d_var (i := 2)) do_none (do_some (d_var (i := 3))))) (dg_name (i := 5) sc_merged.nd) (ds_one (d_exp (d_callX (ok_need_union T) (hr.mono (by decide)) tk (by rfl) T.g_need_union T.F_need_union.kp T.b_need_union .nil (fun _ _ => .nil) (da_cons (d_var (i := 0)) (da_cons (d_var (i := 5)) (da_cons (d_var (i := 4)) da_nil)))))))
    (ds_one (d_set (i := 1) sc_merged.nd (d_orO T.at_Signals T.sf_Signals T.oc_Signals___or__ (ok_Signals_or__ T) (hr.mono (by decide)) (rzXN tk) (d_var (i := 1)) (d_dget (hu_of hr) (d_var (i := 0)) (d_var (i := 4))))))))
    (ds_one (d_ret (d_var (i := 1))))))),
    wp_merged⟩
theorem Tx.F_law_pen (T : Tx K mg) : Fun K "_law_pen" "_law_pen" s_law_pen T.f_law_pen (PySem.W.fnOf "_law_pen" "_law_pen" (defArgs s_law_pen) (defBody s_law_pen) (defScope s_law_pen) .none T.kV_law_pen T.dc_law_pen T.pm_law_pen T.an_law_pen T.cd_law_pen T.ct_law_pen) := fun_mk T.l_law_pen T.c_law_pen T.k_law_pen
theorem Tx.b_law_pen (T : Tx K mg) : Binds K (PySem.W.fnOf "_law_pen" "_law_pen" (defArgs s_law_pen) (defBody s_law_pen) (defScope s_law_pen) .none T.kV_law_pen T.dc_law_pen T.pm_law_pen T.an_law_pen T.cd_law_pen T.ct_law_pen) p_law_pen [] := T.F_law_pen.binds fun _ _ _ _ _ _ us hl => match us, hl with | [_], _ => rfl
theorem ok_law_pen (T : Tx K mg) : FnOk P w K mg base CX0 2 T.f_law_pen (PySem.W.fnOf "_law_pen" "_law_pen" (defArgs s_law_pen) (defBody s_law_pen) (defScope s_law_pen) .none T.kV_law_pen T.dc_law_pen T.pm_law_pen T.an_law_pen T.cd_law_pen T.ct_law_pen) p_law_pen (toSp K sp_law_pen) :=
  dfn2 T.F_law_pen sc_law_pen len_law_pen fun B cdv A outer s H E hr => ⟨w_law_pen,
    (ds_one (d_ret (d_lstM (da_cons (d_callTy (callListA rfl) cListA_ok (by rfl) T.z_list (by decide +kernel) (da_cons (d_sl (d_var (i := 0)) do_none (do_some d_int)) da_nil)) (da_cons d_int (da_cons d_int da_nil)))))),
    wp_law_pen⟩
theorem Tx.F_law_draw (T : Tx K mg) : Fun K "_law_draw" "_law_draw" s_law_draw T.f_law_draw (PySem.W.fnOf "_law_draw" "_law_draw" (defArgs s_law_draw) (defBody s_law_draw) (defScope s_law_draw) .none T.kV_law_draw T.dc_law_draw T.pm_law_draw T.an_law_draw T.cd_law_draw T.ct_law_draw) := fun_mk T.l_law_draw T.c_law_draw T.k_law_draw
theorem Tx.b_law_draw (T : Tx K mg) : Binds K (PySem.W.fnOf "_law_draw" "_law_draw" (defArgs s_law_draw) (defBody s_law_draw) (defScope s_law_draw) .none T.kV_law_draw T.dc_law_draw T.pm_law_draw T.an_law_draw T.cd_law_draw T.ct_law_draw) p_law_draw [] := T.F_law_draw.binds fun _ _ _ _ _ _ us hl => match us, hl with | [_, _], _ => rfl
theorem ok_law_draw (T : Tx K mg) : FnOk P w K mg base CX0 2 T.f_law_draw (PySem.W.fnOf "_law_draw" "_law_draw" (defArgs s_law_draw) (defBody s_law_draw) (defScope s_law_draw) .none T.kV_law_draw T.dc_law_draw T.pm_law_draw T.an_law_draw T.cd_law_draw T.ct_law_draw) p_law_draw (toSp K sp_law_draw) :=
  dfn2 T.F_law_draw sc_law_draw len_law_draw fun B cdv A outer s H E hr => ⟨w_law_draw,
    (ds_cons (d_if (d_cmpT op_gt oGt_ok (d_ix (d_var (i := 0)) d_int) d_int (nomark _)) (ds_cons (d_set (i := 5) sc_law_draw.nd (d_op op_mod oMod_ok (d_callTy call_int1 cInt_ok (by rfl) T.z_int (by decide +kernel) (da_cons (d_ix (d_var (i := 0)) d_int) da_nil)) (d_var (i := 1))))
    (ds_cons (d_asg (d_op op_fdivW oFdiv_ok (d_ix (d_var (i := 0)) d_int) (d_var (i := 1))) (dg_ixL (d_var (i := 0)) d_int))
    (ds_one (d_ret (d_var (i := 5)))))) ds_nil)
    (ds_cons (d_set (i := 2) sc_law_draw.nd (d_ix (d_var (i := 0)) d_int))
    (ds_cons (d_asg (d_op opAdd oAdd_ok (d_var (i := 2)) d_int) (dg_ixL (d_var (i := 0)) d_int))
    (ds_cons (d_set (i := 3) sc_law_draw.nd (d_op opAdd oAdd_ok (d_op opMul oMul_ok d_int (d_var (i := 2))) d_int))
    (ds_cons (d_if (d_cmpT (opNe hr.units) oNeI_ok (d_ix (d_var (i := 0)) d_int) (d_lst da_nil) (nomark _)) (ds_one (d_set (i := 3) sc_law_draw.nd (d_ix (d_ix (d_var (i := 0)) d_int) (d_op op_mod oMod_ok (d_callTy call_int1 cInt_ok (by rfl) T.z_int (by decide +kernel) (da_cons (d_var (i := 2)) da_nil)) (d_callB callLen cLen_ok (by rfl) T.z_len (by decide +kernel) (da_cons (d_ix (d_var (i := 0)) d_int) da_nil)))))) ds_nil)
    (ds_cons (d_if (L2.PW.pt (d_and (d_cmpT op_lt oLt_ok (d_var (i := 2)) (d_callB callLen cLen_ok (by rfl) T.z_len (by decide +kernel) (da_cons (d_ix (d_var (i := 0)) d_int) da_nil)) (nomark _)) (d_and1 (d_cmpT op_ge oGe_ok (d_callB call_abs cAbs_ok (by rfl) T.z_abs (by decide +kernel) (da_cons (d_var (i := 3)) da_nil)) (d_op op_pow oPow_ok d_int d_int) (nomark _))))) (ds_cons (d_set (i := 6) sc_law_draw.nd (d_op opAdd oAdd_ok (d_op opMul oMul_ok d_int (d_op op_sub oSub_ok (d_callB call_abs cAbs_ok (by rfl) T.z_abs (by decide +kernel) (da_cons (d_var (i := 3)) da_nil)) (d_op op_pow oPow_ok d_int d_int))) (d_callTy call_int1 cInt_ok (by rfl) T.z_int (by decide +kernel) (da_cons (d_cmp op_lt oLt_ok (d_var (i := 3)) d_int (nomark _)) da_nil))))
    (ds_cons (d_asg (d_op op_fdivW oFdiv_ok (d_var (i := 6)) (d_var (i := 1))) (dg_ixL (d_var (i := 0)) d_int))
    (ds_one (d_ret (d_op op_mod oMod_ok (d_callTy call_int1 cInt_ok (by rfl) T.z_int (by decide +kernel) (da_cons (d_var (i := 6)) da_nil)) (d_var (i := 1))))))) ds_nil)
    (ds_cons (d_set (i := 4) sc_law_draw.nd (d_op op_mod oMod_ok (d_callTy call_int1 cInt_ok (by rfl) T.z_int (by decide +kernel) (da_cons (d_op op_pow oPow_ok (d_op opAdd oAdd_ok (d_op opAdd oAdd_ok (d_op op_mod oMod_ok (d_callTy call_int1 cInt_ok (by rfl) T.z_int (by decide +kernel) (da_cons (d_var (i := 3)) da_nil)) d_int) (d_op opMul oMul_ok d_int (d_var (i := 2)))) d_int) d_int) da_nil)) d_int))
    (ds_cons (d_set (i := 4) sc_law_draw.nd (d_op op_mod oMod_ok (d_callTy call_int1 cInt_ok (by rfl) T.z_int (by decide +kernel) (da_cons (d_op op_pow oPow_ok (d_op opAdd oAdd_ok (d_op opAdd oAdd_ok (d_op opMul oMul_ok (d_var (i := 4)) (d_op opAdd oAdd_ok (d_op opMul oMul_ok d_int (d_var (i := 2))) d_int)) (d_op opMul oMul_ok (d_op opMul oMul_ok d_int (d_var (i := 2))) (d_var (i := 2)))) d_int) d_int) da_nil)) d_int))
    (ds_one (d_ret (d_op op_mod oMod_ok (d_callTy call_int1 cInt_ok (by rfl) T.z_int (by decide +kernel) (da_cons (d_op op_fdivW oFdiv_ok (d_var (i := 4)) d_int) da_nil)) (d_var (i := 1))))))))))))),
    wp_law_draw⟩
theorem Tx.F_law_pick (T : Tx K mg) : Fun K "_law_pick" "_law_pick" s_law_pick T.f_law_pick (PySem.W.fnOf "_law_pick" "_law_pick" (defArgs s_law_pick) (defBody s_law_pick) (defScope s_law_pick) .none T.kV_law_pick T.dc_law_pick T.pm_law_pick T.an_law_pick T.cd_law_pick T.ct_law_pick) := fun_mk T.l_law_pick T.c_law_pick T.k_law_pick
theorem Tx.b_law_pick (T : Tx K mg) : Binds K (PySem.W.fnOf "_law_pick" "_law_pick" (defArgs s_law_pick) (defBody s_law_pick) (defScope s_law_pick) .none T.kV_law_pick T.dc_law_pick T.pm_law_pick T.an_law_pick T.cd_law_pick T.ct_law_pick) p_law_pick [] := T.F_law_pick.binds fun _ _ _ _ _ _ us hl => match us, hl with | [_, _], _ => rfl
theorem ok_law_pick (T : Tx K mg) : FnOk P w K mg base CX0 4 T.f_law_pick (PySem.W.fnOf "_law_pick" "_law_pick" (defArgs s_law_pick) (defBody s_law_pick) (defScope s_law_pick) .none T.kV_law_pick T.dc_law_pick T.pm_law_pick T.an_law_pick T.cd_law_pick T.ct_law_pick) p_law_pick (toSp K sp_law_pick) :=
  dfn2 T.F_law_pick sc_law_pick len_law_pick fun B cdv A outer s H E hr => ⟨w_law_pick,
    (ds_one (d_ret (d_ix (d_var (i := 1)) (d_call (ok_law_draw T) (hr.mono (by decide)) (by rfl) T.g_law_draw T.F_law_draw.kp T.b_law_draw .nil (fun _ _ => .nil) (da_cons (d_var (i := 0)) (da_cons (d_callB callLen cLen_ok (by rfl) T.z_len (by decide +kernel) (da_cons (d_var (i := 1)) da_nil)) da_nil)))))),
    wp_law_pick⟩
theorem Tx.F_law_pairs (T : Tx K mg) : Fun K "_law_pairs" "_law_pairs" s_law_pairs T.f_law_pairs (PySem.W.fnOf "_law_pairs" "_law_pairs" (defArgs s_law_pairs) (defBody s_law_pairs) (defScope s_law_pairs) .none T.kV_law_pairs T.dc_law_pairs T.pm_law_pairs T.an_law_pairs T.cd_law_pairs T.ct_law_pairs) := fun_mk T.l_law_pairs T.c_law_pairs T.k_law_pairs
theorem Tx.b_law_pairs (T : Tx K mg) : Binds K (PySem.W.fnOf "_law_pairs" "_law_pairs" (defArgs s_law_pairs) (defBody s_law_pairs) (defScope s_law_pairs) .none T.kV_law_pairs T.dc_law_pairs T.pm_law_pairs T.an_law_pairs T.cd_law_pairs T.ct_law_pairs) p_law_pairs [] := T.F_law_pairs.binds fun _ _ _ _ _ _ us hl => match us, hl with | [_, _], _ => rfl
theorem ok_law_pairs (T : Tx K mg) : FnOk P w K mg base CX0 6 T.f_law_pairs (PySem.W.fnOf "_law_pairs" "_law_pairs" (defArgs s_law_pairs) (defBody s_law_pairs) (defScope s_law_pairs) .none T.kV_law_pairs T.dc_law_pairs T.pm_law_pairs T.an_law_pairs T.cd_law_pairs T.ct_law_pairs) p_law_pairs (toSp K sp_law_pairs) :=
  dfn2 T.F_law_pairs sc_law_pairs len_law_pairs fun B cdv A outer s H E hr => ⟨w_law_pairs,
    (ds_cons (d_set (i := 2) sc_law_pairs.nd (d_lst (da_cons d_str (da_cons d_str (da_cons d_str (da_cons d_str (da_cons d_str (da_cons d_str (da_cons d_str da_nil)))))))))
    (ds_cons (d_set (i := 3) sc_law_pairs.nd (d_lstM da_nil))
    (ds_cons (d_for PassesOwn.never rfl (di_range1 (by rfl) T.z_range (da_cons (d_call (ok_law_draw T) (hr.mono (by decide)) (by rfl) T.g_law_draw T.F_law_draw.kp T.b_law_draw .nil (fun _ _ => .nil) (da_cons (d_var (i := 0)) (da_cons (d_op opAdd oAdd_ok (d_var (i := 1)) d_int) da_nil))) da_nil)) (dg_name (i := 4) sc_law_pairs.nd) (ds_cons (d_set (i := 5) sc_law_pairs.nd (d_lcC (own := [("_law_pair", 8)]) rfl sc_law_pairs.nd (d_var (i := 3)) (blkOk_by (by show blkC N_law_pairs (defScope s_law_pairs) _ _ = true; decide +kernel)) (fun _ _ _ _ _ => pg_name (i := 8) sc_law_pairs.nd rfl (Or.inl rfl)) (binds_one (by decide)) (fun _ _ _ _ _ => dts_nil) (fun _ _ _ _ _ => (d_ix (d_var (i := 8)) d_int))))
    (ds_cons (d_set (i := 6) sc_law_pairs.nd (d_call (ok_law_pick T) (hr.mono (by decide)) (by rfl) T.g_law_pick T.F_law_pick.kp T.b_law_pick .nil (fun _ _ => .nil) (da_cons (d_var (i := 0)) (da_cons (d_lc (own := [("_law_name", 6)]) rfl sc_law_pairs.nd (di_any (d_var (i := 2))) (blkOk_by (by show blkC N_law_pairs (defScope s_law_pairs) _ _ = true; decide +kernel)) (fun _ _ _ _ _ => pg_name (i := 6) sc_law_pairs.nd rfl (Or.inl rfl)) (binds_one (by decide)) (fun _ _ _ _ _ => (dts_one (d_cmpT opNotIn oIn_ok (d_var (i := 6)) (d_var (i := 5)) (by rfl)))) (fun _ _ _ _ _ => (d_var (i := 6)))) da_nil))))
    (ds_cons (d_set (i := 7) sc_law_pairs.nd (d_lst (da_cons d_int (da_cons d_int (da_cons d_int (da_cons d_int (da_cons (d_op op_pow oPow_ok d_int d_int) (da_cons (d_call (ok_law_draw T) (hr.mono (by decide)) (by rfl) T.g_law_draw T.F_law_draw.kp T.b_law_draw .nil (fun _ _ => .nil) (da_cons (d_var (i := 0)) (da_cons d_int da_nil))) (da_cons (d_call (ok_law_draw T) (hr.mono (by decide)) (by rfl) T.g_law_draw T.F_law_draw.kp T.b_law_draw .nil (fun _ _ => .nil) (da_cons (d_var (i := 0)) (da_cons (d_op op_pow oPow_ok d_int d_int) da_nil))) da_nil)))))))))
    (ds_one (d_exp (d_bm PySem.F.plainAttrs_list PySem.F.slot_list_append PySem.F.type_list_append mt_append mAppend_ok (d_var (i := 3)) (da_cons (d_tup (da_cons (d_var (i := 6)) (da_cons (d_call (ok_law_pick T) (hr.mono (by decide)) (by rfl) T.g_law_pick T.F_law_pick.kp T.b_law_pick .nil (fun _ _ => .nil) (da_cons (d_var (i := 0)) (da_cons (d_var (i := 7)) da_nil))) da_nil))) da_nil))))))))
    (ds_one (d_retF (d_var (i := 3))))))),
    wp_law_pairs⟩
theorem Tx.F_law_due_of (T : Tx K mg) : Fun K "_law_due_of" "_law_due_of" s_law_due_of T.f_law_due_of (PySem.W.fnOf "_law_due_of" "_law_due_of" (defArgs s_law_due_of) (defBody s_law_due_of) (defScope s_law_due_of) .none T.kV_law_due_of T.dc_law_due_of T.pm_law_due_of T.an_law_due_of T.cd_law_due_of T.ct_law_due_of) := fun_mk T.l_law_due_of T.c_law_due_of T.k_law_due_of
theorem Tx.b_law_due_of (T : Tx K mg) : Binds K (PySem.W.fnOf "_law_due_of" "_law_due_of" (defArgs s_law_due_of) (defBody s_law_due_of) (defScope s_law_due_of) .none T.kV_law_due_of T.dc_law_due_of T.pm_law_due_of T.an_law_due_of T.cd_law_due_of T.ct_law_due_of) p_law_due_of [] := T.F_law_due_of.binds fun _ _ _ _ _ _ us hl => match us, hl with | [_], _ => rfl
theorem ok_law_due_of (T : Tx K mg) : FnOk P w K mg base CX0 2 T.f_law_due_of (PySem.W.fnOf "_law_due_of" "_law_due_of" (defArgs s_law_due_of) (defBody s_law_due_of) (defScope s_law_due_of) .none T.kV_law_due_of T.dc_law_due_of T.pm_law_due_of T.an_law_due_of T.cd_law_due_of T.ct_law_due_of) p_law_due_of (toSp K sp_law_due_of) :=
  dfn2 T.F_law_due_of sc_law_due_of len_law_due_of fun B cdv A outer s H E hr => ⟨w_law_due_of,
    (ds_one (d_ret (d_callTy call_tuple_of cTuple_ok (by rfl) T.z_tuple (by decide +kernel) (da_cons (d_callB cr_sortedPS cSortP_ok (by rfl) T.z_sorted (by decide +kernel) (da_cons (d_lc (own := [("_law_pair", 1)]) rfl sc_law_due_of.nd (di_any (d_var (i := 0))) (blkOk_by (by show blkC N_law_due_of (defScope s_law_due_of) _ _ = true; decide +kernel)) (fun _ _ _ _ _ => pg_name (i := 1) sc_law_due_of.nd rfl (Or.inl rfl)) (binds_one (by decide)) (fun _ _ _ _ _ => (dts_one (d_cmpT (opNe hr.units) oNeI_ok (d_ix (d_var (i := 1)) d_int) d_int (nomark _)))) (fun _ _ _ _ _ => (d_var (i := 1)))) da_nil)) da_nil)))),
    wp_law_due_of⟩
theorem Tx.F_law_do_clash (T : Tx K mg) : Fun K "_law_do_clash" "_law_do_clash" s_law_do_clash T.f_law_do_clash (PySem.W.fnOf "_law_do_clash" "_law_do_clash" (defArgs s_law_do_clash) (defBody s_law_do_clash) (defScope s_law_do_clash) .none T.kV_law_do_clash T.dc_law_do_clash T.pm_law_do_clash T.an_law_do_clash T.cd_law_do_clash T.ct_law_do_clash) := fun_mk T.l_law_do_clash T.c_law_do_clash T.k_law_do_clash
theorem Tx.b_law_do_clash (T : Tx K mg) : Binds K (PySem.W.fnOf "_law_do_clash" "_law_do_clash" (defArgs s_law_do_clash) (defBody s_law_do_clash) (defScope s_law_do_clash) .none T.kV_law_do_clash T.dc_law_do_clash T.pm_law_do_clash T.an_law_do_clash T.cd_law_do_clash T.ct_law_do_clash) p_law_do_clash [] := T.F_law_do_clash.binds fun _ _ _ _ _ _ us hl => match us, hl with | [_, _], _ => rfl
theorem ok_law_do_clash (T : Tx K mg) : FnOk P w K mg base CX0 2 T.f_law_do_clash (PySem.W.fnOf "_law_do_clash" "_law_do_clash" (defArgs s_law_do_clash) (defBody s_law_do_clash) (defScope s_law_do_clash) .none T.kV_law_do_clash T.dc_law_do_clash T.pm_law_do_clash T.an_law_do_clash T.cd_law_do_clash T.ct_law_do_clash) p_law_do_clash (toSp K sp_law_do_clash) :=
  dfn2 T.F_law_do_clash sc_law_do_clash len_law_do_clash fun B cdv A outer s H E hr => ⟨w_law_do_clash,
    (ds_cons (d_set (i := 2) sc_law_do_clash.nd (d_callTy (call_dictP rfl) cDictL_ok (by rfl) T.z_dict (by decide +kernel) (da_cons (d_var (i := 1)) da_nil)))
    (ds_one (d_ret (d_cmp (opNe hr.units) oNeI_ok (d_lc (own := [("_law_name", 3), ("_law_number", 4)]) rfl sc_law_do_clash.nd (di_any (d_var (i := 0))) (blkOk_by (by show blkC N_law_do_clash (defScope s_law_do_clash) _ _ = true; decide +kernel)) (fun _ _ _ _ _ => pg_tup rfl (pgs_cons (pg_name (i := 3) sc_law_do_clash.nd rfl (Or.inl rfl)) (pgs_cons (pg_name (i := 4) sc_law_do_clash.nd rfl (Or.inl rfl)) pgs_nil))) (binds_two (by decide) (by decide)) (fun _ _ _ _ _ => (dts_one (L2.PW.pt (d_and (d_cmpT (opNe hr.units) oNeI_ok (d_var (i := 4)) d_int (nomark _)) (d_and1 (d_cmpT opNotIn oIn_ok (d_get2 (hu_of hr) (d_var (i := 2)) (d_var (i := 3)) d_int) (d_tup (da_cons d_int (da_cons (d_var (i := 4)) da_nil))) (by rfl))))))) (fun _ _ _ _ _ => (d_var (i := 3)))) (d_lst da_nil) (nomark _))))),
    wp_law_do_clash⟩
theorem Tx.F_law_due (T : Tx K mg) : Fun K "_law_due" "_law_due" s_law_due T.f_law_due (PySem.W.fnOf "_law_due" "_law_due" (defArgs s_law_due) (defBody s_law_due) (defScope s_law_due) .none T.kV_law_due T.dc_law_due T.pm_law_due T.an_law_due T.cd_law_due T.ct_law_due) := fun_mk T.l_law_due T.c_law_due T.k_law_due
theorem Tx.b_law_due (T : Tx K mg) : Binds K (PySem.W.fnOf "_law_due" "_law_due" (defArgs s_law_due) (defBody s_law_due) (defScope s_law_due) .none T.kV_law_due T.dc_law_due T.pm_law_due T.an_law_due T.cd_law_due T.ct_law_due) p_law_due [] := T.F_law_due.binds fun _ _ _ _ _ _ us hl => match us, hl with | [_], _ => rfl
theorem ok_law_due (T : Tx K mg) : FnOk P w K mg base CX0 4 T.f_law_due (PySem.W.fnOf "_law_due" "_law_due" (defArgs s_law_due) (defBody s_law_due) (defScope s_law_due) .none T.kV_law_due T.dc_law_due T.pm_law_due T.an_law_due T.cd_law_due T.ct_law_due) p_law_due (toSp K sp_law_due) :=
  dfn2 T.F_law_due sc_law_due len_law_due fun B cdv A outer s H E hr => ⟨w_law_due,
    (ds_cons (d_set (i := 1) sc_law_due.nd (d_callB cr_sortedS cSortS_ok (by rfl) T.z_sorted (by decide +kernel) (da_cons (d_callTy (callListA rfl) cListA_ok (by rfl) T.z_list (by decide +kernel) (da_cons (d_var (i := 0)) da_nil)) da_nil)))
    (ds_cons (d_for PassesOwn.never rfl (di_range1 (by rfl) T.z_range (da_cons (d_callB callLen cLen_ok (by rfl) T.z_len (by decide +kernel) (da_cons (d_var (i := 1)) da_nil)) da_nil)) (dg_name (i := 2) sc_law_due.nd) (ds_one (d_for PassesOwn.never rfl (di_any (d_sl (d_var (i := 1)) do_none (do_some (d_var (i := 2))))) (dg_name (i := 5) sc_law_due.nd) (ds_one (d_if (d_truth (d_call (ok_law_do_clash T) (hr.mono (by decide)) (by rfl) T.g_law_do_clash T.F_law_do_clash.kp T.b_law_do_clash .nil (fun _ _ => .nil) (da_cons (d_dget (hu_of hr) (d_var (i := 0)) (d_var (i := 5))) (da_cons (d_dget (hu_of hr) (d_var (i := 0)) (d_ix (d_var (i := 1)) (d_var (i := 2)))) da_nil)))) (ds_one (d_ret (d_tup (da_cons d_str (da_cons (d_tup (da_cons (d_var (i := 5)) (da_cons (d_ix (d_var (i := 1)) (d_var (i := 2))) da_nil))) da_nil))))) ds_nil)))))
    (ds_cons (d_set (i := 3) sc_law_due.nd (d_dict0 true))
    (ds_cons (d_for PassesOwn.never rfl (di_any (d_var (i := 1))) (dg_name (i := 4) sc_law_due.nd) (ds_one (d_for PassesOwn.never rfl (di_any (d_dget (hu_of hr) (d_var (i := 0)) (d_var (i := 4)))) (dg_tup rfl (dgs_cons (dg_name (i := 6) sc_law_due.nd) (dgs_cons (dg_name (i := 7) sc_law_due.nd) dgs_nil))) (ds_one (d_if (d_cmpT (opNe hr.units) oNeI_ok (d_var (i := 7)) d_int (nomark _)) (ds_one (d_dput (hu_of hr) (d_var (i := 3)) (d_var (i := 6)) (d_var (i := 7)))) ds_nil)))))
    (ds_one (d_lkD (i := 3) (d_ret (d_tup (da_cons d_str (da_cons (d_callTy call_tuple_of cTuple_ok (by rfl) T.z_tuple (by decide +kernel) (da_cons (d_callB cr_sortedPS cSortP_ok (by rfl) T.z_sorted (by decide +kernel) (da_cons (d_lc (own := [("_law_field", 6)]) rfl sc_law_due.nd (di_fdc (d_var (i := 3))) (blkOk_by (by show blkC N_law_due (defScope s_law_due) _ _ = true; decide +kernel)) (fun _ _ _ _ _ => pg_name (i := 6) sc_law_due.nd rfl (Or.inl rfl)) (binds_one (by decide)) (fun _ _ _ _ _ => dts_nil) (fun _ _ _ _ _ => (d_tup (da_cons (d_var (i := 6)) (da_cons (d_dget (hu_of hr) (d_var (i := 3)) (d_var (i := 6))) da_nil))))) da_nil)) da_nil)) da_nil)))))))))),
    wp_law_due⟩
theorem Tx.F_law_found (T : Tx K mg) : Fun K "_law_found" "_law_found" s_law_found T.f_law_found (PySem.W.fnOf "_law_found" "_law_found" (defArgs s_law_found) (defBody s_law_found) (defScope s_law_found) .none T.kV_law_found T.dc_law_found T.pm_law_found T.an_law_found T.cd_law_found T.ct_law_found) := fun_mk T.l_law_found T.c_law_found T.k_law_found
theorem Tx.b_law_found (T : Tx K mg) : Binds K (PySem.W.fnOf "_law_found" "_law_found" (defArgs s_law_found) (defBody s_law_found) (defScope s_law_found) .none T.kV_law_found T.dc_law_found T.pm_law_found T.an_law_found T.cd_law_found T.ct_law_found) p_law_found [] := T.F_law_found.binds fun _ _ _ _ _ _ us hl => match us, hl with | [_], _ => rfl
theorem ok_law_found (T : Tx K mg) : FnG P w K mg base (L2.CX P w) 16 T.f_law_found (PySem.W.fnOf "_law_found" "_law_found" (defArgs s_law_found) (defBody s_law_found) (defScope s_law_found) .none T.kV_law_found T.dc_law_found T.pm_law_found T.an_law_found T.cd_law_found T.ct_law_found) p_law_found (toSp K sp_law_found) :=
  FnG.mono (j := 16) (dfnG T.F_law_found sc_law_found len_law_found fun B cdv A outer s H E quiet hr => ⟨w_law_found, fun RX tk =>
    (ds_one (d_tryCls rfl rfl sc_law_found.nd tk (fun B RX pn xe tk => (ds_one (d_ret (d_tup (da_cons d_str (da_cons (d_fgt (d_fld T.at_Signals T.cl_Signals T.na_Signals_told (d_callX (ok_merged T) (hr.mono (by decide)) tk (by rfl) T.g_merged T.F_merged.kp T.b_merged .nil (fun _ _ => .nil) (da_cons (d_var (i := 0)) da_nil)))) da_nil)))))) (.named ⟨by rfl, by decide, .inl T.m_Clash⟩ rfl rfl (ExTab.cons T.at_Clash (ex_yes T.xm_Clash_Clash (by decide +kernel)) ExTab.nil).look (fun B a C oe n fs d pn hz hd ca ho hsub xd => by
      obtain rfl : n = "Clash" := of_decide_eq_true hsub
      obtain rfl := ClsAt.one ca T.at_Clash
      exact (ds_cons (d_if (L2.PW.pt (d_or (d_truth (d_callB (call_isX T.er_Clash hz hd) (cIsX_ok xd (TabOk.cons T.at_FieldClash T.kit_Clash_FieldClash TabOk.nil).look) (by rfl) T.z_isinstance (by decide +kernel) (da_cons (d_var (i := 1)) (da_cons (d_gcls (by rfl) T.m_FieldClash T.at_FieldClash) da_nil)))) (d_or1 (d_not (d_truth (d_callB (call_isX T.er_Clash hz hd) (cIsX_ok xd (TabOk.cons T.at_OrError T.kit_Clash_OrError TabOk.nil).look) (by rfl) T.z_isinstance (by decide +kernel) (da_cons (d_var (i := 1)) (da_cons (d_gcls (by rfl) T.m_OrError T.at_OrError) da_nil)))))))) (ds_one (d_ret (d_tup (da_cons d_str (da_cons d_non da_nil))))) ds_nil)
    (ds_one (d_ret (d_tup (da_cons d_str (da_cons (d_tup (da_cons (d_xf T.xf_Clash T.xa_Clash_lesser hz hd xd (d_var (i := 1))) (da_cons (d_xf T.xf_Clash T.xa_Clash_name hz hd xd (d_var (i := 1))) da_nil))) da_nil))))))) .nil))),
    wp_law_found⟩) (by decide)
theorem Tx.F_law (T : Tx K mg) : Fun K "law" "law" s_law T.f_law (PySem.W.fnOf "law" "law" (defArgs s_law) (defBody s_law) (defScope s_law) .none T.kV_law T.dc_law T.pm_law T.an_law T.cd_law T.ct_law) := fun_mk T.l_law T.c_law T.k_law
theorem Tx.b_law (T : Tx K mg) : Binds K (PySem.W.fnOf "law" "law" (defArgs s_law) (defBody s_law) (defScope s_law) .none T.kV_law T.dc_law T.pm_law T.an_law T.cd_law T.ct_law) p_law [] := T.F_law.binds fun _ _ _ _ _ _ us hl => match us, hl with | [_], _ => rfl
theorem ok_law (T : Tx K mg) : FnG P w K mg base (L2.CX P w) 18 T.f_law (PySem.W.fnOf "law" "law" (defArgs s_law) (defBody s_law) (defScope s_law) .none T.kV_law T.dc_law T.pm_law T.an_law T.cd_law T.ct_law) p_law (toSp K sp_law) :=
  FnG.mono (j := 18) (dfnG T.F_law sc_law len_law fun B cdv A outer s H E quiet hr => ⟨w_law, fun RX tk =>
    (ds_cons (d_set (i := 1) sc_law.nd (d_call (ok_law_pen T) (hr.mono (by decide)) (by rfl) T.g_law_pen T.F_law_pen.kp T.b_law_pen .nil (fun _ _ => .nil) (da_cons (d_var (i := 0)) da_nil)))
    (ds_cons (d_for (L2.passes_of rfl) rfl (di_range1 (by rfl) T.z_range (da_cons d_int da_nil)) (dg_name (i := 2) sc_law.nd) (ds_cons (d_set (i := 3) sc_law.nd (d_lst (da_cons d_str (da_cons d_str (da_cons d_str (da_cons d_str (da_cons d_str (da_cons d_str (da_cons d_str da_nil)))))))))
    (ds_cons (d_set (i := 4) sc_law.nd (d_dict0 true))
    (ds_cons (d_set (i := 5) sc_law.nd (d_cmp (opEq hr.units) oEqI_ok (d_call (ok_law_draw T) (hr.mono (by decide)) (by rfl) T.g_law_draw T.F_law_draw.kp T.b_law_draw .nil (fun _ _ => .nil) (da_cons (d_var (i := 1)) (da_cons d_int da_nil))) d_int (nomark _)))
    (ds_cons (d_set (i := 6) sc_law.nd (d_dict0 true))
    (ds_cons (d_for (L2.passes_of rfl) rfl (di_range1 (by rfl) T.z_range (da_cons (d_call (ok_law_draw T) (hr.mono (by decide)) (by rfl) T.g_law_draw T.F_law_draw.kp T.b_law_draw .nil (fun _ _ => .nil) (da_cons (d_var (i := 1)) (da_cons d_int da_nil))) da_nil)) (dg_name (i := 7) sc_law.nd) (ds_cons (d_set (i := 9) sc_law.nd (d_call (ok_law_pick T) (hr.mono (by decide)) (by rfl) T.g_law_pick T.F_law_pick.kp T.b_law_pick .nil (fun _ _ => .nil) (da_cons (d_var (i := 1)) (da_cons (d_lc (own := [("_law_label", 9)]) rfl sc_law.nd (di_any (d_var (i := 3))) (blkOk_by (by show blkC N_law (defScope s_law) _ _ = true; decide +kernel)) (fun _ _ _ _ _ => pg_name (i := 9) sc_law.nd rfl (Or.inl rfl)) (binds_one (by decide)) (fun _ _ _ _ _ => (dts_one (d_cmpT opNotIn oIn_ok (d_var (i := 9)) (d_callTy (callListA rfl) cListA_ok (by rfl) T.z_list (by decide +kernel) (da_cons (d_var (i := 4)) da_nil)) (by rfl)))) (fun _ _ _ _ _ => (d_var (i := 9)))) da_nil))))
    (ds_cons (d_set (i := 12) sc_law.nd (d_call (ok_law_pairs T) (hr.mono (by decide)) (by rfl) T.g_law_pairs T.F_law_pairs.kp T.b_law_pairs .nil (fun _ _ => .nil) (da_cons (d_var (i := 1)) (da_cons d_int da_nil))))
    (ds_cons (d_if (d_truth (d_var (i := 5))) (ds_cons (d_setLcM (i := 12) (own := [("_law_name", 13), ("_law_number", 14)]) rfl sc_law.nd rfl rfl (sw_true rfl rfl rfl (by decide +kernel)) (di_any (d_var (i := 12))) (blkOk_by (by show blkC N_law (defScope s_law) _ _ = true; decide +kernel)) (fun _ _ _ _ _ => pg_tup rfl (pgs_cons (pg_name (i := 13) sc_law.nd rfl (Or.inl rfl)) (pgs_cons (pg_name (i := 14) sc_law.nd rfl (Or.inl rfl)) pgs_nil))) (binds_two (by decide) (by decide)) (fun _ _ _ _ _ => dts_nil) (fun _ _ _ _ _ => (d_tup (da_cons (d_var (i := 13)) (da_cons (d_get2 (hu_of hr) (d_var (i := 6)) (d_var (i := 13)) (d_var (i := 14))) da_nil)))))
    (ds_one (d_forC (L2.passes_of rfl) rfl (di_anyC (d_var (i := 12))) (dg_tup rfl (dgs_cons (dg_name (i := 13) sc_law.nd) (dgs_cons (dg_name (i := 14) sc_law.nd) dgs_nil))) (ds_one (d_dput (hu_of hr) (d_var (i := 6)) (d_var (i := 13)) (d_var (i := 14))))))) ds_nil)
    (ds_cons (d_if (L2.PW.pt (d_and (d_truth (d_var (i := 5))) (d_and (d_cmpT (opEq hr.units) oEqI_ok (d_call (ok_law_draw T) (hr.mono (by decide)) (by rfl) T.g_law_draw T.F_law_draw.kp T.b_law_draw .nil (fun _ _ => .nil) (da_cons (d_var (i := 1)) (da_cons d_int da_nil))) d_int (nomark _)) (d_and1 (d_cmpT (opNe hr.units) oNeI_ok (d_var (i := 12)) (d_lst da_nil) (nomark _)))))) (ds_one (d_asg (d_tup (da_cons (d_ix (d_ix (d_var (i := 12)) (d_neg d_int)) d_int) (da_cons (d_op op_mod oMod_ok (d_callTy call_int1 cInt_ok (by rfl) T.z_int (by decide +kernel) (da_cons (d_op opAdd oAdd_ok (d_ix (d_ix (d_var (i := 12)) (d_neg d_int)) d_int) d_int) da_nil)) d_int) da_nil))) (dg_ixL (d_var (i := 12)) (d_neg d_int)))) ds_nil)
    (ds_one (d_frz (i := 12) (d_dput (hu_of hr) (d_var (i := 4)) (d_var (i := 9)) (d_var (i := 12))))))))))
    (ds_cons (d_set (i := 8) sc_law.nd (d_dict0 true))
    (ds_cons (d_lkD (i := 4) (d_for (L2.passes_of rfl) rfl (di_fdc (d_var (i := 4))) (dg_name (i := 9) sc_law.nd) (ds_one (d_dput (hu_of hr) (d_var (i := 8)) (d_var (i := 9)) (d_cmeth T.at_Signals (d_gcls (by rfl) T.m_Signals T.at_Signals) T.cr_Signals T.cm_Signals_of (ok_Signals_of T) (hr.mono (by decide)) (rzX tk) (da_cons (d_dget (hu_of hr) (d_var (i := 4)) (d_var (i := 9))) da_nil))))))
    (ds_cons (d_frz (i := 8) (d_set (i := 10) sc_law.nd (d_call (ok_law_due T) (hr.mono (by decide)) (by rfl) T.g_law_due T.F_law_due.kp T.b_law_due .nil (fun _ _ => .nil) (da_cons (d_var (i := 4)) da_nil))))
    (ds_cons (d_if (L2.PW.pt (d_or (d_cmpT (opNe hr.units) oNeI_ok (d_callG (ok_law_found T) (by exact quiet) (hr.mono (by decide)) (rzX tk) (by rfl) T.g_law_found T.F_law_found.kp T.b_law_found (da_cons (d_var (i := 8)) da_nil)) (d_var (i := 10)) (nomark _)) (d_or (d_cmpT (opNe hr.units) oNeI_ok (d_callG (ok_law_found T) (by exact quiet) (hr.mono (by decide)) (rzX tk) (by rfl) T.g_law_found T.F_law_found.kp T.b_law_found (da_cons (d_var (i := 8)) da_nil)) (d_var (i := 10)) (nomark _)) (d_or1 (d_cmpT (opNe hr.units) oNeI_ok (d_callTy (callListA rfl) cListA_ok (by rfl) T.z_list (by decide +kernel) (da_cons (d_var (i := 8)) da_nil)) (d_callTy (callListA rfl) cListA_ok (by rfl) T.z_list (by decide +kernel) (da_cons (d_var (i := 4)) da_nil)) (nomark _)))))) (ds_one (d_ret d_bl)) ds_nil)
    (ds_cons (d_if (d_cmpT (opNe hr.units) oNeI_ok (d_lc (own := [("_law_label", 9)]) rfl sc_law.nd (di_fdc (d_var (i := 4))) (blkOk_by (by show blkC N_law (defScope s_law) _ _ = true; decide +kernel)) (fun _ _ _ _ _ => pg_name (i := 9) sc_law.nd rfl (Or.inl rfl)) (binds_one (by decide)) (fun _ _ _ _ _ => (dts_one (d_cmpT (opNe hr.units) oNeI_ok (d_fgt (d_fld T.at_Signals T.cl_Signals T.na_Signals_told (d_dget (hu_of hr) (d_var (i := 8)) (d_var (i := 9))))) (d_call (ok_law_due_of T) (hr.mono (by decide)) (by rfl) T.g_law_due_of T.F_law_due_of.kp T.b_law_due_of .nil (fun _ _ => .nil) (da_cons (d_dget (hu_of hr) (d_var (i := 4)) (d_var (i := 9))) da_nil)) (nomark _)))) (fun _ _ _ _ _ => (d_var (i := 9)))) (d_lst da_nil) (nomark _)) (ds_one (d_ret d_bl)) ds_nil)
    (ds_cons (d_set (i := 11) sc_law.nd (d_dict0 true))
    (ds_cons (d_for (L2.passes_of rfl) rfl (di_any (d_revL (d_callTy (callListA rfl) cListA_ok (by rfl) T.z_list (by decide +kernel) (da_cons (d_var (i := 4)) da_nil)))) (dg_name (i := 9) sc_law.nd) (ds_one (d_dput (hu_of hr) (d_var (i := 11)) (d_var (i := 9)) (d_dget (hu_of hr) (d_var (i := 8)) (d_var (i := 9))))))
    (ds_cons (d_frz (i := 11) (d_if (d_cmpT (opNe hr.units) oNeI_ok (d_callG (ok_law_found T) (by exact quiet) (hr.mono (by decide)) (rzX tk) (by rfl) T.g_law_found T.F_law_found.kp T.b_law_found (da_cons (d_var (i := 11)) da_nil)) (d_var (i := 10)) (nomark _)) (ds_one (d_ret d_bl)) ds_nil))
    (ds_one (d_for (L2.passes_of rfl) rfl (di_fdc (d_var (i := 4))) (dg_name (i := 9) sc_law.nd) (ds_one (d_if (d_cmpT (opNe hr.units) oNeI_ok (d_callG (ok_law_found T) (by exact quiet) (hr.mono (by decide)) (rzX tk) (by rfl) T.g_law_found T.F_law_found.kp T.b_law_found (da_cons (d_disp (ws := [((wVar 9), (wOp oDGet (wVar 8) (wVar 9)))]) (pps_cons (d_var (i := 9)) (d_dget (hu_of hr) (d_var (i := 8)) (d_var (i := 9))) pps_nil) rfl rfl (fun z => by cases z) (by decide)) da_nil)) (d_tup (da_cons d_str (da_cons (d_fgt (d_fld T.at_Signals T.cl_Signals T.na_Signals_told (d_dget (hu_of hr) (d_var (i := 8)) (d_var (i := 9))))) da_nil))) (nomark _)) (ds_one (d_ret d_bl)) ds_nil))))))))))))))))))
    (ds_one (d_ret (d_cmp (opEq hr.units) oEqI_ok (d_callG (ok_law_found T) (by exact quiet) (hr.mono (by decide)) (rzX tk) (by rfl) T.g_law_found T.F_law_found.kp T.b_law_found (da_cons (d_dict0 false) da_nil)) (d_tup (da_cons d_str (da_cons (d_tup da_nil) da_nil))) (nomark _)))))),
    wp_law⟩) (by decide)
end
theorem all_mk {l : PySem.W.OpenLaw} {w : World} {K : PySem.W.Frag} {h : Heap} {mg : Str → Option Value} {fa : Addr} (X : K.In h) (G : h.Ns mainGlobals mg) (hfa : mg "law" = some (.ref fa))
    {C_Signals : Addr}
    (q_Signals_at : PySem.W.nsIn K mainGlobals "Signals" = some (some (.ref C_Signals)))
    {C_Clash : Addr}
    (q_Clash_at : PySem.W.nsIn K mainGlobals "Clash" = some (some (.ref C_Clash)))
    {C_FieldClash : Addr}
    (q_FieldClash_at : PySem.W.nsIn K mainGlobals "FieldClash" = some (some (.ref C_FieldClash)))
    {C_InvalidName : Addr}
    (q_InvalidName_at : PySem.W.nsIn K mainGlobals "InvalidName" = some (some (.ref C_InvalidName)))
    {C_InvalidNumber : Addr}
    (q_InvalidNumber_at : PySem.W.nsIn K mainGlobals "InvalidNumber" = some (some (.ref C_InvalidNumber)))
    {C_OrError : Addr}
    (q_OrError_at : PySem.W.nsIn K mainGlobals "OrError" = some (some (.ref C_OrError)))
    (q_Signals_pg : PySem.W.plainGet K C_Signals Str.empty = true)
    (q_Signals_hd : PySem.W.hasDictIn K C_Signals = true)
    (q_Signals_po : PySem.W.plainOver K C_Signals = true)
    (q_Signals_sa : PySem.W.findIn K (.ref C_Signals) "__setattr__" = some (some (.builtin "object.__setattr__")))
    (q_Signals_rd : PySem.W.readsIn K C_Signals (.type "type") = true)
    (q_Signals_ga : PySem.W.specialIn K (.ref C_Signals) "__getattribute__" = some (some (.builtin "type.__getattribute__")))
    {sp_a_Signals_of : Addr}
    (q_Signals_of_find : PySem.W.findCls K (.ref C_Signals) (.type "type") "of" = some (.get (.builtin "classmethod.__get__") (.ref sp_a_Signals_of) .none (.ref C_Signals)))
    {f_Signals_of : Addr}
    {rest_Signals_of : List Value}
    (q_Signals_of_rec : PySem.W.recIn K sp_a_Signals_of "classmethod" = some (.ref f_Signals_of :: rest_Signals_of))
    (q_Signals_of_fi : PySem.W.fnIn K f_Signals_of = true)
    {tk_Signals_MOST : Tok}
    (q_cv_Signals_MOST : PySem.W.findCls K (.ref C_Signals) (.type "type") "MOST" = some (.val (.int 1000000000 tk_Signals_MOST)))
    (q_Clash_ercl : (PySem.W.clsIn K C_Clash).isSome = true)
    (q_Clash_ergA : PySem.W.findIn K (.ref C_Clash) "__getattribute__" = some (some (.builtin "BaseException.__getattribute__")))
    (q_Clash_ergg : PySem.W.findIn K (.ref C_Clash) "__getattr__" = some none)
    (q_Clash_ersb : PySem.W.subIn K (.ref C_Clash) (.type "BaseException") = some true)
    (q_Clash_erca : PySem.W.findIn K (.ref C_Clash) "__class__" = some (some (.builtin "object.__class__")))
    (q_Clash_ercg : PySem.W.specialIn K (.builtin "object.__class__") "__get__" = some (some (.builtin "getset_descriptor.__get__")))
    (q_Clash_ertk : PySem.W.takesIn K (.builtin "object.__class__") = some true)
    (q_Clash_erob : PySem.W.mroIn K C_Clash (.type "object") = some true)
    (q_kit_Clash_FieldClash : PySem.W.kitOne K (.ref C_Clash) (.ref C_FieldClash) = some false)
    (q_kit_Clash_OrError : PySem.W.kitOne K (.ref C_Clash) (.ref C_OrError) = some true)
    (q_Signals_mkm : PySem.W.makesIn K C_Signals = true)
    {f_Signals_init__ : Addr}
    (q_Signals_mki : PySem.W.findIn K (.ref C_Signals) "__init__" = some (some (.ref f_Signals_init__)))
    (q_Signals_mkf : PySem.W.isFn K (.ref f_Signals_init__) = true)
    (q_Signals_mkk : PySem.W.keepIn K (.ref C_Signals) = true)
    (q_Signals_na_told : PySem.W.findIn K (.ref C_Signals) "told" = some none)
    {f_Signals_getitem__ : Addr}
    (q_Signals_getitem___at : PySem.W.findIn K (.ref C_Signals) "__getitem__" = some (some (.ref f_Signals_getitem__)))
    (q_Signals_getitem___fn : PySem.W.isFn K (.ref f_Signals_getitem__) = true)
    {f_Signals_or__ : Addr}
    (q_Signals_or___at : PySem.W.findIn K (.ref C_Signals) "__or__" = some (some (.ref f_Signals_or__)))
    (q_Signals_or___fn : PySem.W.isFn K (.ref f_Signals_or__) = true)
    (q_Clash_ox : OexC K C_Clash)
    {f_Clash_init__ : Addr}
    (q_Clash_ii : PySem.W.findIn K (.ref C_Clash) "__init__" = some (some (.ref f_Clash_init__)))
    (q_Clash_ti : PySem.W.typeIn K (.ref f_Clash_init__) = some (.type "function"))
    (q_xi_Clash_lesser : PySem.W.findIn K (.ref C_Clash) "lesser" = some none)
    (q_xi_Clash_name : PySem.W.findIn K (.ref C_Clash) "name" = some none)
    (q_FieldClash_ox : OexC K C_FieldClash)
    {f_FieldClash_init__ : Addr}
    (q_FieldClash_ii : PySem.W.findIn K (.ref C_FieldClash) "__init__" = some (some (.ref f_FieldClash_init__)))
    (q_FieldClash_ti : PySem.W.typeIn K (.ref f_FieldClash_init__) = some (.type "function"))
    (q_xi_FieldClash_field : PySem.W.findIn K (.ref C_FieldClash) "field" = some none)
    (q_xi_FieldClash_one : PySem.W.findIn K (.ref C_FieldClash) "one" = some none)
    (q_xi_FieldClash_other : PySem.W.findIn K (.ref C_FieldClash) "other" = some none)
    (q_InvalidName_ox : OexC K C_InvalidName)
    {f_InvalidName_init__ : Addr}
    (q_InvalidName_ii : PySem.W.findIn K (.ref C_InvalidName) "__init__" = some (some (.ref f_InvalidName_init__)))
    (q_InvalidName_ti : PySem.W.typeIn K (.ref f_InvalidName_init__) = some (.type "function"))
    (q_xi_InvalidName_value : PySem.W.findIn K (.ref C_InvalidName) "value" = some none)
    (q_InvalidNumber_ox : OexC K C_InvalidNumber)
    {f_InvalidNumber_init__ : Addr}
    (q_InvalidNumber_ii : PySem.W.findIn K (.ref C_InvalidNumber) "__init__" = some (some (.ref f_InvalidNumber_init__)))
    (q_InvalidNumber_ti : PySem.W.typeIn K (.ref f_InvalidNumber_init__) = some (.type "function"))
    (q_xi_InvalidNumber_value : PySem.W.findIn K (.ref C_InvalidNumber) "value" = some none)
    (q_sf_Signals : PySem.W.selfFirst K C_Signals = true)
    (q_xa_Clash_lesser : PySem.W.findIn K (.ref C_Clash) "lesser" = some none)
    (q_xa_Clash_name : PySem.W.findIn K (.ref C_Clash) "name" = some none)
    (q_Clash_xfga : PySem.W.findIn K (.ref C_Clash) "__getattribute__" = some (some (.builtin "BaseException.__getattribute__")))
    (q_Clash_xfgg : PySem.W.findIn K (.ref C_Clash) "__getattr__" = some none)
    (q_Clash_xfex : PySem.W.subIn K (.ref C_Clash) (.type "BaseException") = some true)
    (q_Clash_xfhd : PySem.W.hasDictIn K C_Clash = true)
    (q_xm_Clash_Clash : PySem.W.exmOne K (.ref C_Clash) (.ref C_Clash) = some true)
    (q_xm_FieldClash_FieldClash : PySem.W.exmOne K (.ref C_FieldClash) (.ref C_FieldClash) = some true)
    (q_Signals_getitem___fnI : PySem.W.fnIn K f_Signals_getitem__ = true)
    {oc_InvalidName_init__ kV_InvalidName_init__ dc_InvalidName_init__ pm_InvalidName_init__ cd_InvalidName_init__ ct_InvalidName_init__ : Value}
    {od_InvalidName_init__ an_InvalidName_init__ : Option Addr}
    {sl_InvalidName_init__ : Array (Option Value)}
    (l_InvalidName_init__ : K.lookup f_InvalidName_init__ = some ⟨oc_InvalidName_init__, od_InvalidName_init__, .func (PySem.W.fnOf "__init__" "InvalidName.__init__" (defArgs s_InvalidName_init__) (defBody s_InvalidName_init__) (defScope s_InvalidName_init__) .none kV_InvalidName_init__ dc_InvalidName_init__ pm_InvalidName_init__ an_InvalidName_init__ cd_InvalidName_init__ ct_InvalidName_init__), sl_InvalidName_init__⟩)
    (c_InvalidName_init__ : PySem.W.codeIn K cd_InvalidName_init__ "InvalidName.__init__" = true)
    (k_InvalidName_init__ : PySem.W.keepIn K (.ref f_InvalidName_init__) = true)
    {oc_InvalidNumber_init__ kV_InvalidNumber_init__ dc_InvalidNumber_init__ pm_InvalidNumber_init__ cd_InvalidNumber_init__ ct_InvalidNumber_init__ : Value}
    {od_InvalidNumber_init__ an_InvalidNumber_init__ : Option Addr}
    {sl_InvalidNumber_init__ : Array (Option Value)}
    (l_InvalidNumber_init__ : K.lookup f_InvalidNumber_init__ = some ⟨oc_InvalidNumber_init__, od_InvalidNumber_init__, .func (PySem.W.fnOf "__init__" "InvalidNumber.__init__" (defArgs s_InvalidNumber_init__) (defBody s_InvalidNumber_init__) (defScope s_InvalidNumber_init__) .none kV_InvalidNumber_init__ dc_InvalidNumber_init__ pm_InvalidNumber_init__ an_InvalidNumber_init__ cd_InvalidNumber_init__ ct_InvalidNumber_init__), sl_InvalidNumber_init__⟩)
    (c_InvalidNumber_init__ : PySem.W.codeIn K cd_InvalidNumber_init__ "InvalidNumber.__init__" = true)
    (k_InvalidNumber_init__ : PySem.W.keepIn K (.ref f_InvalidNumber_init__) = true)
    {oc_FieldClash_init__ kV_FieldClash_init__ dc_FieldClash_init__ pm_FieldClash_init__ cd_FieldClash_init__ ct_FieldClash_init__ : Value}
    {od_FieldClash_init__ an_FieldClash_init__ : Option Addr}
    {sl_FieldClash_init__ : Array (Option Value)}
    (l_FieldClash_init__ : K.lookup f_FieldClash_init__ = some ⟨oc_FieldClash_init__, od_FieldClash_init__, .func (PySem.W.fnOf "__init__" "FieldClash.__init__" (defArgs s_FieldClash_init__) (defBody s_FieldClash_init__) (defScope s_FieldClash_init__) .none kV_FieldClash_init__ dc_FieldClash_init__ pm_FieldClash_init__ an_FieldClash_init__ cd_FieldClash_init__ ct_FieldClash_init__), sl_FieldClash_init__⟩)
    (c_FieldClash_init__ : PySem.W.codeIn K cd_FieldClash_init__ "FieldClash.__init__" = true)
    (k_FieldClash_init__ : PySem.W.keepIn K (.ref f_FieldClash_init__) = true)
    {oc_Clash_init__ kV_Clash_init__ dc_Clash_init__ pm_Clash_init__ cd_Clash_init__ ct_Clash_init__ : Value}
    {od_Clash_init__ an_Clash_init__ : Option Addr}
    {sl_Clash_init__ : Array (Option Value)}
    (l_Clash_init__ : K.lookup f_Clash_init__ = some ⟨oc_Clash_init__, od_Clash_init__, .func (PySem.W.fnOf "__init__" "Clash.__init__" (defArgs s_Clash_init__) (defBody s_Clash_init__) (defScope s_Clash_init__) .none kV_Clash_init__ dc_Clash_init__ pm_Clash_init__ an_Clash_init__ cd_Clash_init__ ct_Clash_init__), sl_Clash_init__⟩)
    (c_Clash_init__ : PySem.W.codeIn K cd_Clash_init__ "Clash.__init__" = true)
    (k_Clash_init__ : PySem.W.keepIn K (.ref f_Clash_init__) = true)
    {f_is_integer : Addr}
    (a_is_integer : PySem.W.nsIn K mainGlobals "is_integer" = some (some (.ref f_is_integer)))
    {oc_is_integer kV_is_integer dc_is_integer pm_is_integer cd_is_integer ct_is_integer : Value}
    {od_is_integer an_is_integer : Option Addr}
    {sl_is_integer : Array (Option Value)}
    (l_is_integer : K.lookup f_is_integer = some ⟨oc_is_integer, od_is_integer, .func (PySem.W.fnOf "is_integer" "is_integer" (defArgs s_is_integer) (defBody s_is_integer) (defScope s_is_integer) .none kV_is_integer dc_is_integer pm_is_integer an_is_integer cd_is_integer ct_is_integer), sl_is_integer⟩)
    (c_is_integer : PySem.W.codeIn K cd_is_integer "is_integer" = true)
    (k_is_integer : PySem.W.keepIn K (.ref f_is_integer) = true)
    {f_is_between : Addr}
    (a_is_between : PySem.W.nsIn K mainGlobals "is_between" = some (some (.ref f_is_between)))
    {oc_is_between kV_is_between dc_is_between pm_is_between cd_is_between ct_is_between : Value}
    {od_is_between an_is_between : Option Addr}
    {sl_is_between : Array (Option Value)}
    (l_is_between : K.lookup f_is_between = some ⟨oc_is_between, od_is_between, .func (PySem.W.fnOf "is_between" "is_between" (defArgs s_is_between) (defBody s_is_between) (defScope s_is_between) .none kV_is_between dc_is_between pm_is_between an_is_between cd_is_between ct_is_between), sl_is_between⟩)
    (c_is_between : PySem.W.codeIn K cd_is_between "is_between" = true)
    (k_is_between : PySem.W.keepIn K (.ref f_is_between) = true)
    {f_is_name : Addr}
    (a_is_name : PySem.W.nsIn K mainGlobals "is_name" = some (some (.ref f_is_name)))
    {oc_is_name kV_is_name dc_is_name pm_is_name cd_is_name ct_is_name : Value}
    {od_is_name an_is_name : Option Addr}
    {sl_is_name : Array (Option Value)}
    (l_is_name : K.lookup f_is_name = some ⟨oc_is_name, od_is_name, .func (PySem.W.fnOf "is_name" "is_name" (defArgs s_is_name) (defBody s_is_name) (defScope s_is_name) .none kV_is_name dc_is_name pm_is_name an_is_name cd_is_name ct_is_name), sl_is_name⟩)
    (c_is_name : PySem.W.codeIn K cd_is_name "is_name" = true)
    (k_is_name : PySem.W.keepIn K (.ref f_is_name) = true)
    {f_need_told : Addr}
    (a_need_told : PySem.W.nsIn K mainGlobals "need_told" = some (some (.ref f_need_told)))
    {df_need_told : Addr}
    {oc_need_told kV_need_told dc_need_told pm_need_told cd_need_told ct_need_told : Value}
    {od_need_told an_need_told : Option Addr}
    {sl_need_told : Array (Option Value)}
    (l_need_told : K.lookup f_need_told = some ⟨oc_need_told, od_need_told, .func (PySem.W.fnOf "need_told" "need_told" (defArgs s_need_told) (defBody s_need_told) (defScope s_need_told) (.ref df_need_told) kV_need_told dc_need_told pm_need_told an_need_told cd_need_told ct_need_told), sl_need_told⟩)
    (c_need_told : PySem.W.codeIn K cd_need_told "need_told" = true)
    (k_need_told : PySem.W.keepIn K (.ref f_need_told) = true)
    {de_need_told : Addr}
    {dod_need_told : Option Addr}
    {dn_need_told : Nat}
    {dsl_need_told : Array (Option Value)}
    (q_df__need_told : K.lookup df_need_told = some ⟨.type "tuple", dod_need_told, .seq #[.ref de_need_told] dn_need_told, dsl_need_told⟩)
    {eod_need_told : Option Addr}
    {en_need_told : Nat}
    {esl_need_told : Array (Option Value)}
    (q_de__need_told : K.lookup de_need_told = some ⟨.type "tuple", eod_need_told, .seq #[] en_need_told, esl_need_told⟩)
    {oc_Signals_init__ kV_Signals_init__ dc_Signals_init__ pm_Signals_init__ cd_Signals_init__ ct_Signals_init__ : Value}
    {od_Signals_init__ an_Signals_init__ : Option Addr}
    {sl_Signals_init__ : Array (Option Value)}
    (l_Signals_init__ : K.lookup f_Signals_init__ = some ⟨oc_Signals_init__, od_Signals_init__, .func (PySem.W.fnOf "__init__" "Signals.__init__" (defArgs s_Signals_init__) (defBody s_Signals_init__) (defScope s_Signals_init__) .none kV_Signals_init__ dc_Signals_init__ pm_Signals_init__ an_Signals_init__ cd_Signals_init__ ct_Signals_init__), sl_Signals_init__⟩)
    (c_Signals_init__ : PySem.W.codeIn K cd_Signals_init__ "Signals.__init__" = true)
    (k_Signals_init__ : PySem.W.keepIn K (.ref f_Signals_init__) = true)
    {oc_Signals_of kV_Signals_of dc_Signals_of pm_Signals_of cd_Signals_of ct_Signals_of : Value}
    {od_Signals_of an_Signals_of : Option Addr}
    {sl_Signals_of : Array (Option Value)}
    (l_Signals_of : K.lookup f_Signals_of = some ⟨oc_Signals_of, od_Signals_of, .func (PySem.W.fnOf "of" "Signals.of" (defArgs s_Signals_of) (defBody s_Signals_of) (defScope s_Signals_of) .none kV_Signals_of dc_Signals_of pm_Signals_of an_Signals_of cd_Signals_of ct_Signals_of), sl_Signals_of⟩)
    (c_Signals_of : PySem.W.codeIn K cd_Signals_of "Signals.of" = true)
    (k_Signals_of : PySem.W.keepIn K (.ref f_Signals_of) = true)
    {oc_Signals_getitem__ kV_Signals_getitem__ dc_Signals_getitem__ pm_Signals_getitem__ cd_Signals_getitem__ ct_Signals_getitem__ : Value}
    {od_Signals_getitem__ an_Signals_getitem__ : Option Addr}
    {sl_Signals_getitem__ : Array (Option Value)}
    (l_Signals_getitem__ : K.lookup f_Signals_getitem__ = some ⟨oc_Signals_getitem__, od_Signals_getitem__, .func (PySem.W.fnOf "__getitem__" "Signals.__getitem__" (defArgs s_Signals_getitem__) (defBody s_Signals_getitem__) (defScope s_Signals_getitem__) .none kV_Signals_getitem__ dc_Signals_getitem__ pm_Signals_getitem__ an_Signals_getitem__ cd_Signals_getitem__ ct_Signals_getitem__), sl_Signals_getitem__⟩)
    (c_Signals_getitem__ : PySem.W.codeIn K cd_Signals_getitem__ "Signals.__getitem__" = true)
    (k_Signals_getitem__ : PySem.W.keepIn K (.ref f_Signals_getitem__) = true)
    {oc_Signals_or__ kV_Signals_or__ dc_Signals_or__ pm_Signals_or__ cd_Signals_or__ ct_Signals_or__ : Value}
    {od_Signals_or__ an_Signals_or__ : Option Addr}
    {sl_Signals_or__ : Array (Option Value)}
    (l_Signals_or__ : K.lookup f_Signals_or__ = some ⟨oc_Signals_or__, od_Signals_or__, .func (PySem.W.fnOf "__or__" "Signals.__or__" (defArgs s_Signals_or__) (defBody s_Signals_or__) (defScope s_Signals_or__) .none kV_Signals_or__ dc_Signals_or__ pm_Signals_or__ an_Signals_or__ cd_Signals_or__ ct_Signals_or__), sl_Signals_or__⟩)
    (c_Signals_or__ : PySem.W.codeIn K cd_Signals_or__ "Signals.__or__" = true)
    (k_Signals_or__ : PySem.W.keepIn K (.ref f_Signals_or__) = true)
    {f_need_union : Addr}
    (a_need_union : PySem.W.nsIn K mainGlobals "need_union" = some (some (.ref f_need_union)))
    {oc_need_union kV_need_union dc_need_union pm_need_union cd_need_union ct_need_union : Value}
    {od_need_union an_need_union : Option Addr}
    {sl_need_union : Array (Option Value)}
    (l_need_union : K.lookup f_need_union = some ⟨oc_need_union, od_need_union, .func (PySem.W.fnOf "need_union" "need_union" (defArgs s_need_union) (defBody s_need_union) (defScope s_need_union) .none kV_need_union dc_need_union pm_need_union an_need_union cd_need_union ct_need_union), sl_need_union⟩)
    (c_need_union : PySem.W.codeIn K cd_need_union "need_union" = true)
    (k_need_union : PySem.W.keepIn K (.ref f_need_union) = true)
    {f_merged : Addr}
    (a_merged : PySem.W.nsIn K mainGlobals "merged" = some (some (.ref f_merged)))
    {oc_merged kV_merged dc_merged pm_merged cd_merged ct_merged : Value}
    {od_merged an_merged : Option Addr}
    {sl_merged : Array (Option Value)}
    (l_merged : K.lookup f_merged = some ⟨oc_merged, od_merged, .func (PySem.W.fnOf "merged" "merged" (defArgs s_merged) (defBody s_merged) (defScope s_merged) .none kV_merged dc_merged pm_merged an_merged cd_merged ct_merged), sl_merged⟩)
    (c_merged : PySem.W.codeIn K cd_merged "merged" = true)
    (k_merged : PySem.W.keepIn K (.ref f_merged) = true)
    {f_law_pen : Addr}
    (a_law_pen : PySem.W.nsIn K mainGlobals "_law_pen" = some (some (.ref f_law_pen)))
    {oc_law_pen kV_law_pen dc_law_pen pm_law_pen cd_law_pen ct_law_pen : Value}
    {od_law_pen an_law_pen : Option Addr}
    {sl_law_pen : Array (Option Value)}
    (l_law_pen : K.lookup f_law_pen = some ⟨oc_law_pen, od_law_pen, .func (PySem.W.fnOf "_law_pen" "_law_pen" (defArgs s_law_pen) (defBody s_law_pen) (defScope s_law_pen) .none kV_law_pen dc_law_pen pm_law_pen an_law_pen cd_law_pen ct_law_pen), sl_law_pen⟩)
    (c_law_pen : PySem.W.codeIn K cd_law_pen "_law_pen" = true)
    (k_law_pen : PySem.W.keepIn K (.ref f_law_pen) = true)
    {f_law_draw : Addr}
    (a_law_draw : PySem.W.nsIn K mainGlobals "_law_draw" = some (some (.ref f_law_draw)))
    {oc_law_draw kV_law_draw dc_law_draw pm_law_draw cd_law_draw ct_law_draw : Value}
    {od_law_draw an_law_draw : Option Addr}
    {sl_law_draw : Array (Option Value)}
    (l_law_draw : K.lookup f_law_draw = some ⟨oc_law_draw, od_law_draw, .func (PySem.W.fnOf "_law_draw" "_law_draw" (defArgs s_law_draw) (defBody s_law_draw) (defScope s_law_draw) .none kV_law_draw dc_law_draw pm_law_draw an_law_draw cd_law_draw ct_law_draw), sl_law_draw⟩)
    (c_law_draw : PySem.W.codeIn K cd_law_draw "_law_draw" = true)
    (k_law_draw : PySem.W.keepIn K (.ref f_law_draw) = true)
    {f_law_pick : Addr}
    (a_law_pick : PySem.W.nsIn K mainGlobals "_law_pick" = some (some (.ref f_law_pick)))
    {oc_law_pick kV_law_pick dc_law_pick pm_law_pick cd_law_pick ct_law_pick : Value}
    {od_law_pick an_law_pick : Option Addr}
    {sl_law_pick : Array (Option Value)}
    (l_law_pick : K.lookup f_law_pick = some ⟨oc_law_pick, od_law_pick, .func (PySem.W.fnOf "_law_pick" "_law_pick" (defArgs s_law_pick) (defBody s_law_pick) (defScope s_law_pick) .none kV_law_pick dc_law_pick pm_law_pick an_law_pick cd_law_pick ct_law_pick), sl_law_pick⟩)
    (c_law_pick : PySem.W.codeIn K cd_law_pick "_law_pick" = true)
    (k_law_pick : PySem.W.keepIn K (.ref f_law_pick) = true)
    {f_law_pairs : Addr}
    (a_law_pairs : PySem.W.nsIn K mainGlobals "_law_pairs" = some (some (.ref f_law_pairs)))
    {oc_law_pairs kV_law_pairs dc_law_pairs pm_law_pairs cd_law_pairs ct_law_pairs : Value}
    {od_law_pairs an_law_pairs : Option Addr}
    {sl_law_pairs : Array (Option Value)}
    (l_law_pairs : K.lookup f_law_pairs = some ⟨oc_law_pairs, od_law_pairs, .func (PySem.W.fnOf "_law_pairs" "_law_pairs" (defArgs s_law_pairs) (defBody s_law_pairs) (defScope s_law_pairs) .none kV_law_pairs dc_law_pairs pm_law_pairs an_law_pairs cd_law_pairs ct_law_pairs), sl_law_pairs⟩)
    (c_law_pairs : PySem.W.codeIn K cd_law_pairs "_law_pairs" = true)
    (k_law_pairs : PySem.W.keepIn K (.ref f_law_pairs) = true)
    {f_law_due_of : Addr}
    (a_law_due_of : PySem.W.nsIn K mainGlobals "_law_due_of" = some (some (.ref f_law_due_of)))
    {oc_law_due_of kV_law_due_of dc_law_due_of pm_law_due_of cd_law_due_of ct_law_due_of : Value}
    {od_law_due_of an_law_due_of : Option Addr}
    {sl_law_due_of : Array (Option Value)}
    (l_law_due_of : K.lookup f_law_due_of = some ⟨oc_law_due_of, od_law_due_of, .func (PySem.W.fnOf "_law_due_of" "_law_due_of" (defArgs s_law_due_of) (defBody s_law_due_of) (defScope s_law_due_of) .none kV_law_due_of dc_law_due_of pm_law_due_of an_law_due_of cd_law_due_of ct_law_due_of), sl_law_due_of⟩)
    (c_law_due_of : PySem.W.codeIn K cd_law_due_of "_law_due_of" = true)
    (k_law_due_of : PySem.W.keepIn K (.ref f_law_due_of) = true)
    {f_law_do_clash : Addr}
    (a_law_do_clash : PySem.W.nsIn K mainGlobals "_law_do_clash" = some (some (.ref f_law_do_clash)))
    {oc_law_do_clash kV_law_do_clash dc_law_do_clash pm_law_do_clash cd_law_do_clash ct_law_do_clash : Value}
    {od_law_do_clash an_law_do_clash : Option Addr}
    {sl_law_do_clash : Array (Option Value)}
    (l_law_do_clash : K.lookup f_law_do_clash = some ⟨oc_law_do_clash, od_law_do_clash, .func (PySem.W.fnOf "_law_do_clash" "_law_do_clash" (defArgs s_law_do_clash) (defBody s_law_do_clash) (defScope s_law_do_clash) .none kV_law_do_clash dc_law_do_clash pm_law_do_clash an_law_do_clash cd_law_do_clash ct_law_do_clash), sl_law_do_clash⟩)
    (c_law_do_clash : PySem.W.codeIn K cd_law_do_clash "_law_do_clash" = true)
    (k_law_do_clash : PySem.W.keepIn K (.ref f_law_do_clash) = true)
    {f_law_due : Addr}
    (a_law_due : PySem.W.nsIn K mainGlobals "_law_due" = some (some (.ref f_law_due)))
    {oc_law_due kV_law_due dc_law_due pm_law_due cd_law_due ct_law_due : Value}
    {od_law_due an_law_due : Option Addr}
    {sl_law_due : Array (Option Value)}
    (l_law_due : K.lookup f_law_due = some ⟨oc_law_due, od_law_due, .func (PySem.W.fnOf "_law_due" "_law_due" (defArgs s_law_due) (defBody s_law_due) (defScope s_law_due) .none kV_law_due dc_law_due pm_law_due an_law_due cd_law_due ct_law_due), sl_law_due⟩)
    (c_law_due : PySem.W.codeIn K cd_law_due "_law_due" = true)
    (k_law_due : PySem.W.keepIn K (.ref f_law_due) = true)
    {f_law_found : Addr}
    (a_law_found : PySem.W.nsIn K mainGlobals "_law_found" = some (some (.ref f_law_found)))
    {oc_law_found kV_law_found dc_law_found pm_law_found cd_law_found ct_law_found : Value}
    {od_law_found an_law_found : Option Addr}
    {sl_law_found : Array (Option Value)}
    (l_law_found : K.lookup f_law_found = some ⟨oc_law_found, od_law_found, .func (PySem.W.fnOf "_law_found" "_law_found" (defArgs s_law_found) (defBody s_law_found) (defScope s_law_found) .none kV_law_found dc_law_found pm_law_found an_law_found cd_law_found ct_law_found), sl_law_found⟩)
    (c_law_found : PySem.W.codeIn K cd_law_found "_law_found" = true)
    (k_law_found : PySem.W.keepIn K (.ref f_law_found) = true)
    {f_law : Addr}
    (a_law : PySem.W.nsIn K mainGlobals "law" = some (some (.ref f_law)))
    {oc_law kV_law dc_law pm_law cd_law ct_law : Value}
    {od_law an_law : Option Addr}
    {sl_law : Array (Option Value)}
    (l_law : K.lookup f_law = some ⟨oc_law, od_law, .func (PySem.W.fnOf "law" "law" (defArgs s_law) (defBody s_law) (defScope s_law) .none kV_law dc_law pm_law an_law cd_law ct_law), sl_law⟩)
    (c_law : PySem.W.codeIn K cd_law "law" = true)
    (k_law : PySem.W.keepIn K (.ref f_law) = true)
    {t_DIGITS : Tok}
    (g_DIGITS : PySem.W.nsIn K mainGlobals "DIGITS" = some (some (.str "0123456789" t_DIGITS)))
    {t_LETTERS : Tok}
    (g_LETTERS : PySem.W.nsIn K mainGlobals "LETTERS" = some (some (.str "abcdefghijklmnopqrstuvwxyz" t_LETTERS)))
    {t_LONGEST : Tok}
    (g_LONGEST : PySem.W.nsIn K mainGlobals "LONGEST" = some (some (.int 8 t_LONGEST)))
    {a_RESERVED : Addr}
    {t_RESERVED_0 t_RESERVED_1 t_RESERVED_2 t_RESERVED_3 t_RESERVED_4 : Tok}
    {od_RESERVED : Option Addr}
    {n_RESERVED : Nat}
    {sl_RESERVED : Array (Option Value)}
    (g_RESERVED : PySem.W.nsIn K mainGlobals "RESERVED" = some (some (.ref a_RESERVED)))
    (k_RESERVED : K.lookup a_RESERVED = some ⟨.type "tuple", od_RESERVED, .seq #[(.str "to" t_RESERVED_0), (.str "if" t_RESERVED_1), (.str "tag" t_RESERVED_2), (.str "all" t_RESERVED_3), (.str "none" t_RESERVED_4)] n_RESERVED, sl_RESERVED⟩)
    (z_abs : PySem.W.nsIn K mainGlobals "abs" = some none)
    (z_all : PySem.W.nsIn K mainGlobals "all" = some none)
    (z_bool : PySem.W.nsIn K mainGlobals "bool" = some none)
    (z_dict : PySem.W.nsIn K mainGlobals "dict" = some none)
    (z_enumerate : PySem.W.nsIn K mainGlobals "enumerate" = some none)
    (z_int : PySem.W.nsIn K mainGlobals "int" = some none)
    (z_isinstance : PySem.W.nsIn K mainGlobals "isinstance" = some none)
    (z_len : PySem.W.nsIn K mainGlobals "len" = some none)
    (z_list : PySem.W.nsIn K mainGlobals "list" = some none)
    (z_range : PySem.W.nsIn K mainGlobals "range" = some none)
    (z_sorted : PySem.W.nsIn K mainGlobals "sorted" = some none)
    (z_str : PySem.W.nsIn K mainGlobals "str" = some none)
    (z_tuple : PySem.W.nsIn K mainGlobals "tuple" = some none)
    : ∃ fd : FuncData, (∀ (s : Shared) (v : Value), BindsTo s fd ⟨[v], []⟩ [("_law_script", v)]) ∧ ∀ base : Heap, K.In base → base.Ns mainGlobals mg → FnG l.prog w K mg base (L2.CX l.prog w) 18 fa fd p_law (toSp K sp_law) := by
  have e := hfa.symm.trans (PySem.W.mg_of X G a_law)
  cases e
  exact ⟨_, fun s v => .of_eq rfl, fun base _ _ => ok_law { m_Signals := PySem.W.mg_of X G q_Signals_at, at_Signals := q_Signals_at, m_Clash := PySem.W.mg_of X G q_Clash_at, at_Clash := q_Clash_at, m_FieldClash := PySem.W.mg_of X G q_FieldClash_at, at_FieldClash := q_FieldClash_at, m_InvalidName := PySem.W.mg_of X G q_InvalidName_at, at_InvalidName := q_InvalidName_at, m_InvalidNumber := PySem.W.mg_of X G q_InvalidNumber_at, at_InvalidNumber := q_InvalidNumber_at, m_OrError := PySem.W.mg_of X G q_OrError_at, at_OrError := q_OrError_at, cl_Signals := ⟨q_Signals_pg, q_Signals_hd, q_Signals_po, q_Signals_sa⟩, cr_Signals := ⟨q_Signals_rd, q_Signals_ga⟩, cm_Signals_of := ⟨q_Signals_of_find, ⟨_, q_Signals_of_rec⟩, q_Signals_of_fi⟩, cv_Signals_MOST := q_cv_Signals_MOST, er_Clash := ⟨q_Clash_ercl, q_Clash_ergA, q_Clash_ergg, q_Clash_ersb, q_Clash_erca, q_Clash_ercg, q_Clash_ertk, q_Clash_erob⟩, kit_Clash_FieldClash := q_kit_Clash_FieldClash, kit_Clash_OrError := q_kit_Clash_OrError, mk_Signals := ⟨q_Signals_mkm, q_Signals_mki, q_Signals_mkf, q_Signals_mkk⟩, na_Signals_told := q_Signals_na_told, oc_Signals___getitem__ := ⟨q_Signals_getitem___at, q_Signals_getitem___fn⟩, oc_Signals___or__ := ⟨q_Signals_or___at, q_Signals_or___fn⟩, ox_Clash := q_Clash_ox, ii_Clash := q_Clash_ii, ti_Clash := q_Clash_ti, xi_Clash_lesser := q_xi_Clash_lesser, xi_Clash_name := q_xi_Clash_name, ox_FieldClash := q_FieldClash_ox, ii_FieldClash := q_FieldClash_ii, ti_FieldClash := q_FieldClash_ti, xi_FieldClash_field := q_xi_FieldClash_field, xi_FieldClash_one := q_xi_FieldClash_one, xi_FieldClash_other := q_xi_FieldClash_other, ox_InvalidName := q_InvalidName_ox, ii_InvalidName := q_InvalidName_ii, ti_InvalidName := q_InvalidName_ti, xi_InvalidName_value := q_xi_InvalidName_value, ox_InvalidNumber := q_InvalidNumber_ox, ii_InvalidNumber := q_InvalidNumber_ii, ti_InvalidNumber := q_InvalidNumber_ti, xi_InvalidNumber_value := q_xi_InvalidNumber_value, sf_Signals := q_sf_Signals, xa_Clash_lesser := q_xa_Clash_lesser, xa_Clash_name := q_xa_Clash_name, xf_Clash := ⟨q_Clash_xfga, q_Clash_xfgg, q_Clash_xfex, q_Clash_xfhd⟩, xm_Clash_Clash := q_xm_Clash_Clash, xm_FieldClash_FieldClash := q_xm_FieldClash_FieldClash, fn_Signals___getitem__ := q_Signals_getitem___fnI, l_InvalidName_init__ := l_InvalidName_init__, c_InvalidName_init__ := c_InvalidName_init__, k_InvalidName_init__ := k_InvalidName_init__, l_InvalidNumber_init__ := l_InvalidNumber_init__, c_InvalidNumber_init__ := c_InvalidNumber_init__, k_InvalidNumber_init__ := k_InvalidNumber_init__, l_FieldClash_init__ := l_FieldClash_init__, c_FieldClash_init__ := c_FieldClash_init__, k_FieldClash_init__ := k_FieldClash_init__, l_Clash_init__ := l_Clash_init__, c_Clash_init__ := c_Clash_init__, k_Clash_init__ := k_Clash_init__, g_is_integer := PySem.W.mg_of X G a_is_integer, l_is_integer := l_is_integer, c_is_integer := c_is_integer, k_is_integer := k_is_integer, g_is_between := PySem.W.mg_of X G a_is_between, l_is_between := l_is_between, c_is_between := c_is_between, k_is_between := k_is_between, g_is_name := PySem.W.mg_of X G a_is_name, l_is_name := l_is_name, c_is_name := c_is_name, k_is_name := k_is_name, g_need_told := PySem.W.mg_of X G a_need_told, l_need_told := l_need_told, c_need_told := c_need_told, k_need_told := k_need_told, df__need_told := q_df__need_told, de__need_told := q_de__need_told, l_Signals_init__ := l_Signals_init__, c_Signals_init__ := c_Signals_init__, k_Signals_init__ := k_Signals_init__, l_Signals_of := l_Signals_of, c_Signals_of := c_Signals_of, k_Signals_of := k_Signals_of, l_Signals_getitem__ := l_Signals_getitem__, c_Signals_getitem__ := c_Signals_getitem__, k_Signals_getitem__ := k_Signals_getitem__, l_Signals_or__ := l_Signals_or__, c_Signals_or__ := c_Signals_or__, k_Signals_or__ := k_Signals_or__, g_need_union := PySem.W.mg_of X G a_need_union, l_need_union := l_need_union, c_need_union := c_need_union, k_need_union := k_need_union, g_merged := PySem.W.mg_of X G a_merged, l_merged := l_merged, c_merged := c_merged, k_merged := k_merged, g_law_pen := PySem.W.mg_of X G a_law_pen, l_law_pen := l_law_pen, c_law_pen := c_law_pen, k_law_pen := k_law_pen, g_law_draw := PySem.W.mg_of X G a_law_draw, l_law_draw := l_law_draw, c_law_draw := c_law_draw, k_law_draw := k_law_draw, g_law_pick := PySem.W.mg_of X G a_law_pick, l_law_pick := l_law_pick, c_law_pick := c_law_pick, k_law_pick := k_law_pick, g_law_pairs := PySem.W.mg_of X G a_law_pairs, l_law_pairs := l_law_pairs, c_law_pairs := c_law_pairs, k_law_pairs := k_law_pairs, g_law_due_of := PySem.W.mg_of X G a_law_due_of, l_law_due_of := l_law_due_of, c_law_due_of := c_law_due_of, k_law_due_of := k_law_due_of, g_law_do_clash := PySem.W.mg_of X G a_law_do_clash, l_law_do_clash := l_law_do_clash, c_law_do_clash := c_law_do_clash, k_law_do_clash := k_law_do_clash, g_law_due := PySem.W.mg_of X G a_law_due, l_law_due := l_law_due, c_law_due := c_law_due, k_law_due := k_law_due, g_law_found := PySem.W.mg_of X G a_law_found, l_law_found := l_law_found, c_law_found := c_law_found, k_law_found := k_law_found, g_law := PySem.W.mg_of X G a_law, l_law := l_law, c_law := c_law, k_law := k_law, g_DIGITS := PySem.W.mg_of X G g_DIGITS, g_LETTERS := PySem.W.mg_of X G g_LETTERS, g_LONGEST := PySem.W.mg_of X G g_LONGEST, g_RESERVED := PySem.W.mg_of X G g_RESERVED, k_RESERVED := k_RESERVED, z_abs := PySem.W.mg_none_of X G z_abs, z_all := PySem.W.mg_none_of X G z_all, z_bool := PySem.W.mg_none_of X G z_bool, z_dict := PySem.W.mg_none_of X G z_dict, z_enumerate := PySem.W.mg_none_of X G z_enumerate, z_int := PySem.W.mg_none_of X G z_int, z_isinstance := PySem.W.mg_none_of X G z_isinstance, z_len := PySem.W.mg_none_of X G z_len, z_list := PySem.W.mg_none_of X G z_list, z_range := PySem.W.mg_none_of X G z_range, z_sorted := PySem.W.mg_none_of X G z_sorted, z_str := PySem.W.mg_none_of X G z_str, z_tuple := PySem.W.mg_none_of X G z_tuple }⟩
end K09
open PySem PySem.W PyProof.Rows
set_option maxHeartbeats 0 in
theorem PySem.Challenge.cw_orplaces_k09_merged_parts_holds : PySem.Challenge.rw_orplaces_k09_merged_parts.Holds := by
  w_on; o_law; k_head; (case hw => w_witness2)
  k_fill
  refine L3.walk_ofG (l := PySem.Challenge.rw_orplaces_k09_merged_parts) (n := 63) (k := 18) (x := "_law_script") (CX := fun w => L2.CX (PySem.Challenge.rw_orplaces_k09_merged_parts).prog w) (sp := fun w => L3.toSp _ K09.sp_law) rfl (by decide) rfl ⟨rfl, by decide, by decide⟩ (fun w h Y => PySem.W.kIn_of Y) ?F (fun w H a ns hl ho hS => L3.law_sp (fun ns hl R RX h => K09.law_start ns hl R RX h) hl hS) (fun _ _ _ _ _ ⟨_, _, _, _, _, _, _, _, _, _, _, _, no⟩ => no)
  case F =>
    intro w mg fa h KX G hmg
    refine' K09.all_mk KX G hmg ?q_Signals_at ?q_Clash_at ?q_FieldClash_at ?q_InvalidName_at ?q_InvalidNumber_at ?q_OrError_at ?q_Signals_pg ?q_Signals_hd ?q_Signals_po ?q_Signals_sa ?q_Signals_rd ?q_Signals_ga ?q_Signals_of_find ?q_Signals_of_rec ?q_Signals_of_fi ?q_cv_Signals_MOST ?q_Clash_ercl ?q_Clash_ergA ?q_Clash_ergg ?q_Clash_ersb ?q_Clash_erca ?q_Clash_ercg ?q_Clash_ertk ?q_Clash_erob ?q_kit_Clash_FieldClash ?q_kit_Clash_OrError ?q_Signals_mkm ?q_Signals_mki ?q_Signals_mkf ?q_Signals_mkk ?q_Signals_na_told ?q_Signals_getitem___at ?q_Signals_getitem___fn ?q_Signals_or___at ?q_Signals_or___fn ?q_Clash_ox ?q_Clash_ii ?q_Clash_ti ?q_xi_Clash_lesser ?q_xi_Clash_name ?q_FieldClash_ox ?q_FieldClash_ii ?q_FieldClash_ti ?q_xi_FieldClash_field ?q_xi_FieldClash_one ?q_xi_FieldClash_other ?q_InvalidName_ox ?q_InvalidName_ii ?q_InvalidName_ti ?q_xi_InvalidName_value ?q_InvalidNumber_ox ?q_InvalidNumber_ii ?q_InvalidNumber_ti ?q_xi_InvalidNumber_value ?q_sf_Signals ?q_xa_Clash_lesser ?q_xa_Clash_name ?q_Clash_xfga ?q_Clash_xfgg ?q_Clash_xfex ?q_Clash_xfhd ?q_xm_Clash_Clash ?q_xm_FieldClash_FieldClash ?q_Signals_getitem___fnI ?l_InvalidName_init__ ?c_InvalidName_init__ ?k_InvalidName_init__ ?l_InvalidNumber_init__ ?c_InvalidNumber_init__ ?k_InvalidNumber_init__ ?l_FieldClash_init__ ?c_FieldClash_init__ ?k_FieldClash_init__ ?l_Clash_init__ ?c_Clash_init__ ?k_Clash_init__ ?a_is_integer ?l_is_integer ?c_is_integer ?k_is_integer ?a_is_between ?l_is_between ?c_is_between ?k_is_between ?a_is_name ?l_is_name ?c_is_name ?k_is_name ?a_need_told ?l_need_told ?c_need_told ?k_need_told ?q_df__need_told ?q_de__need_told ?l_Signals_init__ ?c_Signals_init__ ?k_Signals_init__ ?l_Signals_of ?c_Signals_of ?k_Signals_of ?l_Signals_getitem__ ?c_Signals_getitem__ ?k_Signals_getitem__ ?l_Signals_or__ ?c_Signals_or__ ?k_Signals_or__ ?a_need_union ?l_need_union ?c_need_union ?k_need_union ?a_merged ?l_merged ?c_merged ?k_merged ?a_law_pen ?l_law_pen ?c_law_pen ?k_law_pen ?a_law_draw ?l_law_draw ?c_law_draw ?k_law_draw ?a_law_pick ?l_law_pick ?c_law_pick ?k_law_pick ?a_law_pairs ?l_law_pairs ?c_law_pairs ?k_law_pairs ?a_law_due_of ?l_law_due_of ?c_law_due_of ?k_law_due_of ?a_law_do_clash ?l_law_do_clash ?c_law_do_clash ?k_law_do_clash ?a_law_due ?l_law_due ?c_law_due ?k_law_due ?a_law_found ?l_law_found ?c_law_found ?k_law_found ?a_law ?l_law ?c_law ?k_law ?g_DIGITS ?g_LETTERS ?g_LONGEST ?g_RESERVED ?k_RESERVED ?z_abs ?z_all ?z_bool ?z_dict ?z_enumerate ?z_int ?z_isinstance ?z_len ?z_list ?z_range ?z_sorted ?z_str ?z_tuple
    (case q_Signals_at => k_is)
    (case q_Clash_at => k_is)
    (case q_FieldClash_at => k_is)
    (case q_InvalidName_at => k_is)
    (case q_InvalidNumber_at => k_is)
    (case q_OrError_at => k_is)
    (case q_Signals_pg => k_is)
    (case q_Signals_hd => k_is)
    (case q_Signals_po => k_is)
    (case q_Signals_sa => k_is)
    (case q_Signals_rd => k_is)
    (case q_Signals_ga => k_is)
    (case q_Signals_of_find => k_is)
    (case q_Signals_of_rec => k_is)
    (case q_Signals_of_fi => k_is)
    (case q_cv_Signals_MOST => k_is)
    (case q_Clash_ercl => (show PySem.W.isClsIn _ _ = true; k_is))
    (case q_Clash_ergA => k_is)
    (case q_Clash_ergg => k_is)
    (case q_Clash_ersb => k_is)
    (case q_Clash_erca => k_is)
    (case q_Clash_ercg => k_is)
    (case q_Clash_ertk => k_is)
    (case q_Clash_erob => k_is)
    (case q_kit_Clash_FieldClash => kit_is)
    (case q_kit_Clash_OrError => kit_is)
    (case q_Signals_mkm => k_is)
    (case q_Signals_mki => k_is)
    (case q_Signals_mkf => k_is)
    (case q_Signals_mkk => k_is)
    (case q_Signals_na_told => k_is)
    (case q_Signals_getitem___at => k_is)
    (case q_Signals_getitem___fn => k_is)
    (case q_Signals_or___at => k_is)
    (case q_Signals_or___fn => k_is)
    (case q_Clash_ox => exact ⟨⟨_, _, _, _, _, _, _, _, _, _, _, _, _, _, _, by k_is, by decide +kernel⟩, by k_is, by k_is, by k_is, by k_is⟩)
    (case q_Clash_ii => k_is)
    (case q_Clash_ti => k_is)
    (case q_xi_Clash_lesser => k_is)
    (case q_xi_Clash_name => k_is)
    (case q_FieldClash_ox => exact ⟨⟨_, _, _, _, _, _, _, _, _, _, _, _, _, _, _, by k_is, by decide +kernel⟩, by k_is, by k_is, by k_is, by k_is⟩)
    (case q_FieldClash_ii => k_is)
    (case q_FieldClash_ti => k_is)
    (case q_xi_FieldClash_field => k_is)
    (case q_xi_FieldClash_one => k_is)
    (case q_xi_FieldClash_other => k_is)
    (case q_InvalidName_ox => exact ⟨⟨_, _, _, _, _, _, _, _, _, _, _, _, _, _, _, by k_is, by decide +kernel⟩, by k_is, by k_is, by k_is, by k_is⟩)
    (case q_InvalidName_ii => k_is)
    (case q_InvalidName_ti => k_is)
    (case q_xi_InvalidName_value => k_is)
    (case q_InvalidNumber_ox => exact ⟨⟨_, _, _, _, _, _, _, _, _, _, _, _, _, _, _, by k_is, by decide +kernel⟩, by k_is, by k_is, by k_is, by k_is⟩)
    (case q_InvalidNumber_ii => k_is)
    (case q_InvalidNumber_ti => k_is)
    (case q_xi_InvalidNumber_value => k_is)
    (case q_sf_Signals => k_is)
    (case q_xa_Clash_lesser => k_is)
    (case q_xa_Clash_name => k_is)
    (case q_Clash_xfga => k_is)
    (case q_Clash_xfgg => k_is)
    (case q_Clash_xfex => k_is)
    (case q_Clash_xfhd => k_is)
    (case q_xm_Clash_Clash => kts_exm)
    (case q_xm_FieldClash_FieldClash => kts_exm)
    (case q_Signals_getitem___fnI => k_is)
    (case l_InvalidName_init__ => k_is)
    (case c_InvalidName_init__ => k_is)
    (case k_InvalidName_init__ => k_is)
    (case l_InvalidNumber_init__ => k_is)
    (case c_InvalidNumber_init__ => k_is)
    (case k_InvalidNumber_init__ => k_is)
    (case l_FieldClash_init__ => k_is)
    (case c_FieldClash_init__ => k_is)
    (case k_FieldClash_init__ => k_is)
    (case l_Clash_init__ => k_is)
    (case c_Clash_init__ => k_is)
    (case k_Clash_init__ => k_is)
    (case a_is_integer => k_is)
    (case l_is_integer => k_is)
    (case c_is_integer => k_is)
    (case k_is_integer => k_is)
    (case a_is_between => k_is)
    (case l_is_between => k_is)
    (case c_is_between => k_is)
    (case k_is_between => k_is)
    (case a_is_name => k_is)
    (case l_is_name => k_is)
    (case c_is_name => k_is)
    (case k_is_name => k_is)
    (case a_need_told => k_is)
    (case l_need_told => k_is)
    (case c_need_told => k_is)
    (case k_need_told => k_is)
    (case q_df__need_told => k_is)
    (case q_de__need_told => k_is)
    (case l_Signals_init__ => k_is)
    (case c_Signals_init__ => k_is)
    (case k_Signals_init__ => k_is)
    (case l_Signals_of => k_is)
    (case c_Signals_of => k_is)
    (case k_Signals_of => k_is)
    (case l_Signals_getitem__ => k_is)
    (case c_Signals_getitem__ => k_is)
    (case k_Signals_getitem__ => k_is)
    (case l_Signals_or__ => k_is)
    (case c_Signals_or__ => k_is)
    (case k_Signals_or__ => k_is)
    (case a_need_union => k_is)
    (case l_need_union => k_is)
    (case c_need_union => k_is)
    (case k_need_union => k_is)
    (case a_merged => k_is)
    (case l_merged => k_is)
    (case c_merged => k_is)
    (case k_merged => k_is)
    (case a_law_pen => k_is)
    (case l_law_pen => k_is)
    (case c_law_pen => k_is)
    (case k_law_pen => k_is)
    (case a_law_draw => k_is)
    (case l_law_draw => k_is)
    (case c_law_draw => k_is)
    (case k_law_draw => k_is)
    (case a_law_pick => k_is)
    (case l_law_pick => k_is)
    (case c_law_pick => k_is)
    (case k_law_pick => k_is)
    (case a_law_pairs => k_is)
    (case l_law_pairs => k_is)
    (case c_law_pairs => k_is)
    (case k_law_pairs => k_is)
    (case a_law_due_of => k_is)
    (case l_law_due_of => k_is)
    (case c_law_due_of => k_is)
    (case k_law_due_of => k_is)
    (case a_law_do_clash => k_is)
    (case l_law_do_clash => k_is)
    (case c_law_do_clash => k_is)
    (case k_law_do_clash => k_is)
    (case a_law_due => k_is)
    (case l_law_due => k_is)
    (case c_law_due => k_is)
    (case k_law_due => k_is)
    (case a_law_found => k_is)
    (case l_law_found => k_is)
    (case c_law_found => k_is)
    (case k_law_found => k_is)
    (case a_law => k_is)
    (case l_law => k_is)
    (case c_law => k_is)
    (case k_law => k_is)
    (case g_DIGITS => k_is)
    (case g_LETTERS => k_is)
    (case g_LONGEST => k_is)
    (case g_RESERVED => k_is)
    (case k_RESERVED => k_is)
    (case z_abs => k_is)
    (case z_all => k_is)
    (case z_bool => k_is)
    (case z_dict => k_is)
    (case z_enumerate => k_is)
    (case z_int => k_is)
    (case z_isinstance => k_is)
    (case z_len => k_is)
    (case z_list => k_is)
    (case z_range => k_is)
    (case z_sorted => k_is)
    (case z_str => k_is)
    (case z_tuple => k_is)
